import PyProof.Rows.All
import Wide.All
import OpenK.AllK
import Wide.FinOn
import HandS.ForMost
import HandS.TryOnly
import HandS.Exc
import HandS.IsInst
import HandS.Defaults
import HandS.Dict
import HandS.More
import HandS.Style
import HandS.HeadHook4
import HandS.HeadEnd
import HandS.Codes
import HandS.Words
import HandS.Head0
import HandS.Head1
import HandS.Head2
import KE.KStateDown
import PySem.Challenge.RW_rowscribe_k02_machine_step_by_step
section
set_option Elab.async false
set_option linter.all false
set_option maxRecDepth 100000
namespace Rw
open PySem L2

/-! ### values -/
/-- a closed tree: nothing in it changes any more -/
inductive T where
  | non | bl (b : Bool) | int (i : Int) | str (x : Str)
  | tup (l : List T) | lst (l : List T)
  /-- the script (a locked list of ints) -/
  | scr (l : List Int)
/-- a value: a closed tree, an object of the arena, a frozen container with such in it -/
inductive D where
  | t (x : T) | ref (i : Nat) | tup (l : List D) | lst (l : List D)
/-- an object that may change -/
inductive MO where
  | lst (l : List D) | dK (l : List (Key × D)) | dT (l : List (List Key × D)) | obj (c : Nat) (l : List (Str × D)) | gone
abbrev Ar := List MO
abbrev En := List (Option D)
inductive Res (α : Type) where
  | ok (a : α) (M : Ar)
  | exc (c : Nat) (fs : List (Str × T)) (M : Ar)
  | stuck
def Res.bind {α β : Type} (r : Res α) (f : α → Ar → Res β) : Res β := match r with
  | .ok a M => f a M
  | .exc c fs M => .exc c fs M
  | .stuck => .stuck
def line : Nat := 16777216
def okIf {α : Type} (c : Bool) (r : Res α) : Res α := match c with
  | true => r
  | false => .stuck

/-! ### syntax -/
inductive BinK where | add | sub | mul | fdiv | mod | pow
inductive CmpK where | eq | ne | lt | le | gt | ge | isIn | notIn
inductive BiK where
  | len | int | list (mu : Bool) | tuple | isInt | isBool | isList | isSeq | min2 | max2 | minT | str
inductive MeK where | append | extend | pop
inductive Md where | plain | clean | peek | fresh | focus
inductive Tg where
  | var (i : Nat) | tup (l : List Tg)
mutual
inductive Ex where
  | var (i : Nat)
  | con (t : T)
  | glo (n : Nat)
  | bin (o : BinK) (mu : Bool) (a b : Ex)
  | neg (a : Ex)
  | cmp (o : CmpK) (a b : Ex)
  | isN (yes : Bool) (a : Ex)
  | chain (o1 o2 : CmpK) (a b c : Ex)
  | and (es : List Ex) | or (es : List Ex) | not (a : Ex)
  | ife (c a b : Ex)
  | list (mu : Bool) (es : List Ex) | tuple (es : List Ex)
  | idx (a i : Ex)
  | slc (mu : Bool) (a : Ex) (lo hi : Option Ex)
  | bi (f : BiK) (es : List Ex)
  | me (m : MeK) (o : Ex) (es : List Ex)
  | call (m : Md) (f : Nat) (es : List Ex)
  | meth (c : Nat) (m : Str) (f : Nat) (o : Ex) (es : List Ex)
  | make (c f : Nat) (es : List Ex)
  | attr (c : Nat) (o : Ex) (f : Str)
  | pick (ks : List Str) (es : List Ex) (i : Ex)
  | tabIn (yes : Bool) (n : Nat) (a : Ex) | tabGet (n : Nat) (a : Ex)
  | comp (mu : Bool) (tg : Tg) (s : Sr) (c : Option Ex) (e : Ex)
inductive Sr where
  | seq (e : Ex) | rng (es : List Ex) | enu (e : Ex) | tab (n : Nat)
end
inductive Sm where
  | asg (tg : Tg) (e : Ex)
  | fld (c : Nat) (o : Ex) (f : Str) (e : Ex)
  | sub (o i e : Ex)
  | expr (e : Ex)
  | ret (e : Option Ex)
  | ite (c : Ex) (a b : List Sm)
  | for (tg : Tg) (s : Sr) (b : List Sm)
  | whl (c : Ex) (b : List Sm)
  | raise (c f : Nat) (es : List Ex)
inductive Fl where
  | nx (r : En) | rt (d : D)

/-! ### values' own functions -/
def allT : List D → Option (List T)
  | [] => some []
  | .t x :: r => (match allT r with
    | some l => some (x :: l)
    | none => none)
  | _ :: _ => none
def frzL (l : List D) : D := match allT l with
  | some ts => .t (.lst ts)
  | none => .lst l
def frzT (l : List D) : D := match allT l with
  | some ts => .t (.tup ts)
  | none => .tup l
def mkL (mu : Bool) (l : List D) (M : Ar) : Res D := match mu with
  | true => .ok (.ref M.length) (M ++ [.lst l])
  | false => .ok (frzL l) M
def mkLn (mu : Bool) (l : List D) (M : Ar) : Res D := okIf (decide (l.length ≤ line)) (mkL mu l M)
/-- a list's items -/
def lsOf (M : Ar) : D → Option (List D)
  | .t (.lst l) => some (l.map .t)
  | .lst l => some l
  | .ref i => (match M[i]? with
    | some (.lst l) => some l
    | _ => none)
  | _ => none
/-- a tuple's items -/
def tpOf : D → Option (List D)
  | .t (.tup l) => some (l.map .t)
  | .tup l => some l
  | _ => none
/-- the script's -/
def scOf : D → Option (List D)
  | .t (.scr l) => some (l.map fun i => .t (.int i))
  | _ => none
def sqOf (M : Ar) (d : D) : Option (List D) := match lsOf M d with
  | some l => some l
  | none => (match tpOf d with
    | some l => some l
    | none => scOf d)
def mapO {α β : Type} (f : α → Option β) : List α → Option (List β)
  | [] => some []
  | a :: r => (match f a with
    | some b => (match mapO f r with
      | some l => some (b :: l)
      | none => none)
    | none => none)
/-- a value as a closed tree, as it stands now -/
def snap (M : Ar) : Nat → D → Option T
  | _, .t x => some x
  | 0, _ => none
  | n + 1, .ref i => (match M[i]? with
    | some (.lst l) => (mapO (snap M n) l).map .lst
    | _ => none)
  | n + 1, .tup l => (mapO (snap M n) l).map .tup
  | n + 1, .lst l => (mapO (snap M n) l).map .lst
def deep : Nat := 6
mutual
def toPy : T → PyData
  | .non => .none
  | .bl b => .bool b
  | .int i => .int i
  | .str x => .str x
  | .tup l => .tuple (toPys l)
  | .lst l => .list (toPys l)
  | .scr _ => .dict []
def toPys : List T → List PyData
  | [] => []
  | x :: r => toPy x :: toPys r
end
def eqV2 (M : Ar) (x y : D) (k : Bool → Bool) : Res D := match snap M deep x, snap M deep y with
  | some a, some b => okIf (SeqAt.shaped (toPy a) && SeqAt.shaped (toPy b)) (.ok (.t (.bl (k (PyData.eqv (toPy a) (toPy b))))) M)
  | _, _ => .stuck
/-- a scalar -/
def scV : D → Option V
  | .t .non => some .non
  | .t (.bl b) => some (.bl b)
  | .t (.int i) => some (.int i)
  | .t (.str x) => some (.str x)
  | _ => none
def inV2 (M : Ar) (x y : D) (k : Bool → Bool) : Res D := match scV x, (sqOf M y).bind (mapO scV) with
  | some v, some vs => .ok (.t (.bl (k (inV v vs)))) M
  | _, _ => .stuck
def cmpI : CmpK → Int → Int → Option Bool
  | .lt, i, j => some (decide (i < j))
  | .le, i, j => some (decide (i ≤ j))
  | .gt, i, j => some (decide (j < i))
  | .ge, i, j => some (decide (j ≤ i))
  | _, _, _ => none
def cmpN (o : CmpK) (x y : D) (M : Ar) : Res D := match x, y with
  | .t (.int i), .t (.int j) => (match cmpI o i j with
    | some b => .ok (.t (.bl b)) M
    | none => .stuck)
  | _, _ => .stuck
def cmpV (o : CmpK) (x y : D) (M : Ar) : Res D := match o with
  | .eq => eqV2 M x y id
  | .ne => eqV2 M x y not
  | .isIn => inV2 M x y id
  | .notIn => inV2 M x y not
  | .lt => cmpN .lt x y M
  | .le => cmpN .le x y M
  | .gt => cmpN .gt x y M
  | .ge => cmpN .ge x y M
def repL (mu : Bool) (l : List D) (k : Int) (M : Ar) : Res D :=
  okIf (decide (-(2 ^ 63) ≤ k) && decide (k < 2 ^ 63) && decide (l.length * k.toNat ≤ line)) (mkL mu (List.replicate k.toNat l).flatten M)
def binV (o : BinK) (mu : Bool) (x y : D) (M : Ar) : Res D := match x, y with
  | .t (.int i), .t (.int j) => (match o with
    | .add => .ok (.t (.int (i + j))) M
    | .sub => .ok (.t (.int (i - j))) M
    | .mul => okIf ((decide (-(2 ^ 64) < i) && decide (i < 2 ^ 64)) || (decide (-(2 ^ 64) < j) && decide (j < 2 ^ 64))) (.ok (.t (.int (i * j))) M)
    | .fdiv => okIf (decide (0 < j) && decide (j < 1073741824)) (.ok (.t (.int (i / j))) M)
    | .mod => okIf (decide (0 < j)) (.ok (.t (.int (i % j))) M)
    | .pow => okIf (decide (0 ≤ j) && decide (j ≤ 1000000) && decide (i.natAbs < 2 ^ 64)) (.ok (.t (.int (i ^ j.toNat))) M))
  | x, y => (match o, lsOf M x, lsOf M y with
    | .add, some l, some m => mkLn mu (l ++ m) M
    | .mul, some l, none => (match y with
      | .t (.int k) => repL mu l k M
      | _ => .stuck)
    | _, _, _ => .stuck)
def idxV (x y : D) (M : Ar) : Res D := match sqOf M x, y with
  | some l, .t (.int i) => (match atI l i with
    | some d => .ok d M
    | none => .stuck)
  | _, _ => .stuck
def cut {α : Type} (xs : List α) (lo hi : Option Int) : List α := (xs.drop (HT.sIx xs.length 0 lo)).take (HT.sIx xs.length xs.length hi - HT.sIx xs.length 0 lo)
def slcV (mu : Bool) (x : D) (lo hi : Option Int) (M : Ar) : Res D := match lsOf M x with
  | some l => mkL mu (cut l lo hi) M
  | none => (match tpOf x with
    | some l => okIf (!(decide (HT.sIx l.length 0 lo = 0) && decide (HT.sIx l.length l.length hi = l.length))) (.ok (frzT (cut l lo hi)) M)
    | none => .stuck)
def truV (d : D) (M : Ar) : Res Bool := match d with
  | .t (.bl b) => .ok b M
  | _ => .stuck
inductive Ty where | non | bl | int | str | tup | lst
def Ty.name : Ty → String
  | .non => "NoneType" | .bl => "bool" | .int => "int" | .str => "str" | .tup => "tuple" | .lst => "list"
def tyT : T → Ty
  | .non => .non | .bl _ => .bl | .int _ => .int | .str _ => .str | .tup _ => .tup | .lst _ => .lst | .scr _ => .lst
def tyD (M : Ar) : D → Option Ty
  | .t x => some (tyT x)
  | .tup _ => some .tup
  | .lst _ => some .lst
  | .ref i => (match M[i]? with
    | some (.lst _) => some .lst
    | _ => none)
def isTy : BiK → Ty → Bool
  | .isInt, .int => true
  | .isInt, .bl => true
  | .isBool, .bl => true
  | .isList, .lst => true
  | .isSeq, .lst => true
  | .isSeq, .tup => true
  | _, _ => false
def isV (f : BiK) (d : D) (M : Ar) : Res D := match tyD M d with
  | some t => .ok (.t (.bl (isTy f t))) M
  | none => .stuck
def biV (f : BiK) (ds : List D) (M : Ar) : Res D := match f, ds with
  | .len, [d] => (match sqOf M d with
    | some l => .ok (.t (.int l.length)) M
    | none => .stuck)
  | .int, [.t (.int i)] => .ok (.t (.int i)) M
  | .int, [.t (.bl b)] => .ok (.t (.int (if b then 1 else 0))) M
  | .list mu, [d] => (match lsOf M d with
    | some l => mkL mu l M
    | none => (match tpOf d with
      | some l => mkL mu l M
      | none => .stuck))
  | .tuple, [d] => (match lsOf M d with
    | some l => .ok (frzT l) M
    | none => (match tpOf d with
      | some _ => .ok d M
      | none => .stuck))
  | .isInt, [d] => isV .isInt d M
  | .isBool, [d] => isV .isBool d M
  | .isList, [d] => isV .isList d M
  | .isSeq, [d] => isV .isSeq d M
  | .min2, [.t (.int i), .t (.int j)] => .ok (.t (.int (if j < i then j else i))) M
  | .max2, [.t (.int i), .t (.int j)] => .ok (.t (.int (if j > i then j else i))) M
  | _, _ => .stuck
def meV (m : MeK) (o : D) (ds : List D) (M : Ar) : Res D := match o with
  | .ref i => (match M[i]? with
    | some (.lst l) => (match m, ds with
      | .append, [d] => okIf (decide (l.length < line)) (.ok (.t .non) (M.set i (.lst (l ++ [d]))))
      | .extend, [d] => (match d with
        | .ref _ => .stuck
        | d => (match lsOf M d with
          | some k => okIf (decide (l.length + k.length ≤ line)) (.ok (.t .non) (M.set i (.lst (l ++ k))))
          | none => .stuck))
      | .pop, [] => (match l[l.length - 1]? with
        | some d => .ok d (M.set i (.lst l.dropLast))
        | none => .stuck)
      | _, _ => .stuck)
    | _ => .stuck)
  | _ => .stuck
def putD (f : Str) (v : D) : List (Str × D) → List (Str × D)
  | [] => [(f, v)]
  | (g, x) :: r => if g = f then (g, v) :: r else (g, x) :: putD f v r
/-- the fields of an object of the class c -/
def objOf (M : Ar) (c : Nat) : D → Option (List (Str × D))
  | .ref i => (match M[i]? with
    | some (.obj k fs) => (match decide (k = c) with
      | true => some fs
      | false => none)
    | _ => none)
  | _ => none
def setO (M : Ar) (d : D) (o : MO) : Ar := match d with
  | .ref i => M.set i o
  | _ => M
def fldV (c : Nat) (o : D) (f : Str) (v : D) (M : Ar) : Res Unit := match objOf M c o with
  | some fs => okIf (decide (fs.length < 1000)) (.ok () (setO M o (.obj c (putD f v fs))))
  | none => .stuck
def attrV (c : Nat) (o : D) (f : Str) (M : Ar) : Res D := match objOf M c o with
  | some fs => (match fs.lookup f with
    | some d => .ok d M
    | none => .stuck)
  | none => .stuck
def methB (M : Ar) (c : Nat) (m : Str) (o : D) : Bool := match objOf M c o with
  | some fs => (match fs.lookup m with
    | some _ => false
    | none => true)
  | none => false
def isLst (M : Ar) (o : D) : Bool := match lsOf M o with
  | some _ => true
  | none => false
def subV (o i v : D) (M : Ar) : Res Unit := match o, i with
  | .ref a, .t (.int k) => (match M[a]? with
    | some (.lst l) => (match ixN l.length k with
      | some j => .ok () (M.set a (.lst (l.set j v)))
      | none => .stuck)
    | _ => .stuck)
  | _, _ => .stuck
def pickV (ks : List Str) (ds : List D) (i : D) (M : Ar) : Res D := match i with
  | .t (.str x) => (match (ks.zip ds).lookup x with
    | some d => .ok d M
    | none => .stuck)
  | _ => .stuck
/-- a turn's items: fixed, or those of a list of the arena as it stands at each turn -/
inductive Itm where
  | fix (l : List D) | live (i n : Nat)
def rngL (lo hi : Int) : List D := (List.range (hi - lo).toNat).map fun (k : Nat) => .t (.int (lo + (k : Int)))
def small (i : Int) : Bool := decide (-(2 ^ 62) ≤ i) && decide (i < 2 ^ 62)
def enuL (k : Nat) : List D → List D
  | [] => []
  | d :: r => frzT [.t (.int k), d] :: enuL (k + 1) r
def srSeq (d : D) (M : Ar) : Res Itm := match d with
  | .ref i => (match M[i]? with
    | some (.lst l) => .ok (.live i l.length) M
    | _ => .stuck)
  | d => (match sqOf M d with
    | some l => .ok (.fix l) M
    | none => .stuck)
def srRng (ds : List D) (M : Ar) : Res Itm := match ds with
  | [.t (.int j)] => okIf (small j) (.ok (.fix (rngL 0 j)) M)
  | [.t (.int i), .t (.int j)] => okIf (small i && small j) (.ok (.fix (rngL i j)) M)
  | _ => .stuck
def srEnu (d : D) (M : Ar) : Res Itm := match d with
  | .ref _ => .stuck
  | d => (match lsOf M d with
    | some l => .ok (.fix (enuL 0 l)) M
    | none => .stuck)
def tabInV (yes : Bool) (l : List (Str × T)) (x : D) (M : Ar) : Res D := match x with
  | .t (.str s) => .ok (.t (.bl (match l.lookup s with | some _ => yes | none => !yes))) M
  | _ => .stuck
def tabGetV (l : List (Str × T)) (x : D) (M : Ar) : Res D := match x with
  | .t (.str s) => (match l.lookup s with
    | some t => .ok (.t t) M
    | none => .stuck)
  | _ => .stuck
mutual
def Tg.slots : Tg → List Nat
  | .var i => [i]
  | .tup l => slotsL l
def slotsL : List Tg → List Nat
  | [] => []
  | t :: r => t.slots ++ slotsL r
end
def wipeE (r : En) : List Nat → En
  | [] => r
  | v :: vs => (wipeE r vs).set v none
mutual
def asg : Tg → D → Ar → En → Option En
  | .var i, d, _, r => if i < r.length then some (r.set i (some d)) else none
  | .tup ts, d, M, r => (match tpOf d with
    | some l => asgs ts l M r
    | none => (match lsOf M d with
      | some l => asgs ts l M r
      | none => none))
def asgs : List Tg → List D → Ar → En → Option En
  | [], [], _, r => some r
  | t :: ts, d :: ds, M, r => (match asg t d M r with
    | some r' => asgs ts ds M r'
    | none => none)
  | _, _, _, _ => none
end
/-! ### loops -/
def forF (b : D → En → Ar → Res Fl) : List D → En → Ar → Res Fl
  | [], r, M => .ok (.nx r) M
  | d :: l, r, M => (b d r M).bind fun f M => match f with
    | .nx r' => forF b l r' M
    | .rt x => .ok (.rt x) M
def forL (b : D → En → Ar → Res Fl) (i : Nat) : Nat → Nat → En → Ar → Res Fl
  | 0, _, _, _ => .stuck
  | n + 1, j, r, M => (match M[i]? with
    | some (.lst l) => (match l[j]? with
      | none => .ok (.nx r) M
      | some d => (b d r M).bind fun f M => match f with
        | .nx r' => forL b i n (j + 1) r' M
        | .rt x => .ok (.rt x) M)
    | _ => .stuck)
def forI (b : D → En → Ar → Res Fl) : Itm → En → Ar → Res Fl
  | .fix l, r, M => forF b l r M
  | .live i n, r, M => forL b i (n + 1) 0 r M
def whl (c : En → Ar → Res Bool) (b : En → Ar → Res Fl) : Nat → En → Ar → Res Fl
  | 0, _, _ => .stuck
  | n + 1, r, M => (c r M).bind fun t M => match t with
    | false => .ok (.nx r) M
    | true => (b r M).bind fun f M => match f with
      | .nx r' => whl c b n r' M
      | .rt x => .ok (.rt x) M
/-- a comprehension's turns: none where the test says no -/
def cmpF (b : D → Ar → Res (Option D)) : List D → List D → Ar → Res (List D)
  | [], acc, M => .ok acc M
  | d :: l, acc, M => (b d M).bind fun o M => match o with
    | none => cmpF b l acc M
    | some x => okIf (decide (acc.length < line)) (cmpF b l (acc ++ [x]) M)
def cmpL (b : D → Ar → Res (Option D)) (i : Nat) : Nat → Nat → List D → Ar → Res (List D)
  | 0, _, _, _ => .stuck
  | n + 1, j, acc, M => (match M[i]? with
    | some (.lst l) => (match l[j]? with
      | none => .ok acc M
      | some d => (b d M).bind fun o M => match o with
        | none => cmpL b i n (j + 1) acc M
        | some x => okIf (decide (acc.length < line)) (cmpL b i n (j + 1) (acc ++ [x]) M))
    | _ => .stuck)
def cmpItm (b : D → Ar → Res (Option D)) : Itm → Ar → Res (List D)
  | .fix l, M => cmpF b l [] M
  | .live i n, M => cmpL b i (n + 1) 0 [] M
def wfuel : Nat := 1000000000

/-! ### the evaluator -/
abbrev Cal := Nat → List D → Ar → Res D
/-- the module's part: constants, tables, global names of defs, (class, method, def), (class, its name, its __init__), (class, attribute) -/
structure Pg where
  consts : List (Str × T)
  tabs : List (Str × List (Str × T))
  gname : List (Nat × Str)
  meths : List (Nat × Str × Nat)
  makes : List (Nat × Str × Nat)
  flds : List (Nat × Str)
/-! the same, its places further on -/
mutual
def shD (n : Nat) : D → D
  | .t x => .t x
  | .ref i => .ref (n + i)
  | .tup l => .tup (shDs n l)
  | .lst l => .lst (shDs n l)
def shDs (n : Nat) : List D → List D
  | [] => []
  | d :: l => shD n d :: shDs n l
end
def shP {α : Type} (n : Nat) : List (α × D) → List (α × D)
  | [] => []
  | q :: l => (q.1, shD n q.2) :: shP n l
def shO (n : Nat) : MO → MO
  | .lst l => .lst (shDs n l)
  | .dK l => .dK (shP n l)
  | .dT l => .dT (shP n l)
  | .obj c l => .obj c (shP n l)
  | .gone => .gone
/-- what a call that saw the one list alone leaves: its answer, the list -/
def foc (M : Ar) (i : Nat) (d : D) (M1 : Ar) : Res D := match M1 with
  | .lst l :: r => (match allT l, snap (.gone :: r) deep d with
    | some _, some t => .ok (.t t) (M.set i (.lst l))
    | _, _ => .stuck)
  | _ => .stuck
def callV (G : Cal) (m : Md) (f : Nat) (ds : List D) (M : Ar) : Res D := match m with
  | .plain => G f ds M
  | .clean => (match allT ds with
    | none => .stuck
    | some ts => (match G f (ts.map .t) [] with
      | .ok d M1 => (match snap M1 deep d with
        | some t => .ok (.t t) M
        | none => .stuck)
      | .exc c fs _ => .exc c fs M
      | .stuck => .stuck))
  | .peek => (match mapO (snap M deep) ds with
    | none => .stuck
    | some ts => (match G f (ts.map .t) [] with
      | .ok d _ => (match scV d with
        | some _ => .ok d M
        | none => .stuck)
      | .exc _ _ _ => .stuck
      | .stuck => .stuck))
  | .fresh => (match allT ds with
    | none => .stuck
    | some ts => (match G f (ts.map .t) [] with
      | .ok d M1 => .ok (shD M.length d) (M ++ M1.map (shO M.length))
      | .exc c fs _ => .exc c fs M
      | .stuck => .stuck))
  | .focus => (match ds with
    | .ref i :: ds' => (match M[i]?, allT ds' with
      | some (.lst l), some ts => (match allT l with
        | some _ => (match G f (.ref 0 :: ts.map .t) [.lst l] with
          | .ok d M1 => foc M i d M1
          | _ => .stuck)
        | none => .stuck)
      | _, _ => .stuck)
    | _ => .stuck)
def isNB (yes : Bool) : D → Bool
  | .t .non => yes
  | _ => !yes
def noExc {α : Type} (r : Res α) : Res α := match r with
  | .exc _ _ _ => .stuck
  | r => r
section
variable (P : Pg) (G : Cal)
mutual
def evE : Ex → En → Ar → Res D
  | .var i, r, M => (match r[i]? with
    | some (some d) => .ok d M
    | _ => .stuck)
  | .con t, _, M => .ok (.t t) M
  | .glo n, _, M => (match P.consts[n]? with
    | some (_, t) => .ok (.t t) M
    | none => .stuck)
  | .bin o mu a b, r, M => (evE a r M).bind fun x M => (evE b r M).bind fun y M => binV o mu x y M
  | .neg a, r, M => (evE a r M).bind fun x M => match x with
    | .t (.int i) => .ok (.t (.int (-i))) M
    | _ => .stuck
  | .cmp o a b, r, M => (evE a r M).bind fun x M => (evE b r M).bind fun y M => cmpV o x y M
  | .isN yes a, r, M => (evE a r M).bind fun x M => .ok (.t (.bl (isNB yes x))) M
  | .chain o1 o2 a b c, r, M => (evE a r M).bind fun x M => (evE b r M).bind fun y M => (cmpV o1 x y M).bind fun z M => (truV z M).bind fun k M => match k with
    | true => (evE c r M).bind fun u M => cmpV o2 y u M
    | false => .ok (.t (.bl false)) M
  | .and es, r, M => evAnd es r M
  | .or es, r, M => evOr es r M
  | .not a, r, M => (evE a r M).bind fun x M => (truV x M).bind fun k M => .ok (.t (.bl (!k))) M
  | .ife c a b, r, M => ((evE c r M).bind truV).bind fun k M => match k with
    | true => evE a r M
    | false => evE b r M
  | .list mu es, r, M => (evEs es r M).bind fun ds M => mkLn mu ds M
  | .tuple es, r, M => (evEs es r M).bind fun ds M => okIf (decide (ds.length ≤ line)) (.ok (frzT ds) M)
  | .idx a i, r, M => (evE a r M).bind fun x M => (evE i r M).bind fun y M => idxV x y M
  | .slc mu a lo hi, r, M => (evE a r M).bind fun x M => (evO lo r M).bind fun l M => (evO hi r M).bind fun h M => slcV mu x l h M
  | .bi f es, r, M => (evEs es r M).bind fun ds M => biV f ds M
  | .me m o es, r, M => (evE o r M).bind fun x M => okIf (isLst M x) ((evEs es r M).bind fun ds M => meV m x ds M)
  | .call m f es, r, M => (evEs es r M).bind fun ds M => callV G m f ds M
  | .meth c m f o es, r, M => (evE o r M).bind fun x M => okIf (methB M c m x) ((evEs es r M).bind fun ds M => G f (x :: ds) M)
  | .make c f es, r, M => (evEs es r M).bind fun ds M => (G f (.ref M.length :: ds) (M ++ [.obj c []])).bind fun d M1 => match d with
    | .t .non => .ok (.ref M.length) M1
    | _ => .stuck
  | .attr c o f, r, M => (evE o r M).bind fun x M => attrV c x f M
  | .pick ks es i, r, M => (evEs es r M).bind fun ds M => (evE i r M).bind fun y M => pickV ks ds y M
  | .tabIn yes n a, r, M => (evE a r M).bind fun x M => match P.tabs[n]? with
    | some (_, l) => tabInV yes l x M
    | none => .stuck
  | .tabGet n a, r, M => (evE a r M).bind fun x M => match P.tabs[n]? with
    | some (_, l) => tabGetV l x M
    | none => .stuck
  | .comp mu tg s c e, r, M => (evSr s r M).bind fun I M => (cmpItm (fun d M => noExc (match asg tg d M (wipeE r tg.slots) with
      | none => .stuck
      | some r' => (evC c r' M).bind fun k M => match k with
        | true => (evE e r' M).bind fun x M => .ok (some x) M
        | false => .ok none M)) I M).bind fun l M => mkL mu l M
def evEs : List Ex → En → Ar → Res (List D)
  | [], _, M => .ok [] M
  | e :: es, r, M => (evE e r M).bind fun d M => (evEs es r M).bind fun ds M => .ok (d :: ds) M
def evAnd : List Ex → En → Ar → Res D
  | [], _, _ => .stuck
  | [a], r, M => evE a r M
  | a :: b :: es, r, M => (evE a r M).bind fun x M => (truV x M).bind fun k M => match k with
    | true => evAnd (b :: es) r M
    | false => .ok (.t (.bl false)) M
def evOr : List Ex → En → Ar → Res D
  | [], _, _ => .stuck
  | [a], r, M => evE a r M
  | a :: b :: es, r, M => (evE a r M).bind fun x M => (truV x M).bind fun k M => match k with
    | true => .ok (.t (.bl true)) M
    | false => evOr (b :: es) r M
def evO : Option Ex → En → Ar → Res (Option Int)
  | none, _, M => .ok none M
  | some e, r, M => (evE e r M).bind fun x M => match x with
    | .t (.int i) => .ok (some i) M
    | _ => .stuck
def evC : Option Ex → En → Ar → Res Bool
  | none, _, M => .ok true M
  | some e, r, M => (evE e r M).bind truV
def evSr : Sr → En → Ar → Res Itm
  | .seq e, r, M => (evE e r M).bind srSeq
  | .rng es, r, M => (evEs es r M).bind srRng
  | .enu e, r, M => (evE e r M).bind srEnu
  | .tab n, _, M => (match P.tabs[n]? with
    | some (_, l) => .ok (.fix (l.map fun p => .t (.str p.1))) M
    | none => .stuck)
end
def evT (e : Ex) (r : En) (M : Ar) : Res Bool := (evE P G e r M).bind truV
mutual
def evS : Sm → En → Ar → Res Fl
  | .asg tg e, r, M => (evE P G e r M).bind fun d M => match asg tg d M r with
    | some r' => .ok (.nx r') M
    | none => .stuck
  | .fld c o f e, r, M => (evE P G e r M).bind fun d M => (evE P G o r M).bind fun x M => (fldV c x f d M).bind fun _ M => .ok (.nx r) M
  | .sub o i e, r, M => (evE P G e r M).bind fun d M => (evE P G o r M).bind fun x M => (evE P G i r M).bind fun y M => (subV x y d M).bind fun _ M => .ok (.nx r) M
  | .expr e, r, M => (evE P G e r M).bind fun _ M => .ok (.nx r) M
  | .ret none, _, M => .ok (.rt (.t .non)) M
  | .ret (some e), r, M => (evE P G e r M).bind fun d M => .ok (.rt d) M
  | .ite c a b, r, M => (evT P G c r M).bind fun k M => match k with
    | true => evB a r M
    | false => evB b r M
  | .for tg s b, r, M => (evSr P G s r M).bind fun I M => forI (fun d r M => match asg tg d M r with
      | none => .stuck
      | some r' => evB b r' M) I r M
  | .whl c b, r, M => whl (fun r M => evT P G c r M) (fun r M => evB b r M) wfuel r M
  | .raise _ _ _, _, _ => .stuck
def evB : List Sm → En → Ar → Res Fl
  | [], r, M => .ok (.nx r) M
  | s :: ss, r, M => (evS s r M).bind fun f M => match f with
    | .nx r' => evB ss r' M
    | .rt d => .ok (.rt d) M
end
end
/-- a def: its names by slot (parameters first), how many parameters, its body -/
structure Fn where
  names : List Str
  np : Nat
  body : List Sm
def fnV (P : Pg) (G : Cal) (fn : Fn) (ds : List D) (M : Ar) : Res D := match decide (ds.length = fn.np) with
  | false => .stuck
  | true => (evB P G fn.body (ds.map some ++ List.replicate (fn.names.length - ds.length) none) M).bind fun f M => match f with
    | .nx _ => .ok (.t .non) M
    | .rt d => .ok d M
def run (P : Pg) (F : Nat → Option Fn) : Nat → Cal
  | 0, _, _, _ => .stuck
  | k + 1, f, ds, M => (match F f with
    | none => .stuck
    | some fn => fnV P (run P F k) fn ds M)
end Rw
end

section
set_option Elab.async false
set_option linter.all false
set_option maxRecDepth 100000
/-! the relation between the evaluator's state and the layer's heap -/
namespace Rw
open PySem PySem.Spec PyProof.Rows L2

def Sub (F F' : Hp) : Prop := ∀ a o, F a = some o → F' a = some o
theorem Sub.refl (F : Hp) : Sub F F := fun _ _ h => h
theorem Sub.trans {F G H : Hp} (h : Sub F G) (k : Sub G H) : Sub F H := fun a o e => k a o (h a o e)
def Pre (p q : List Addr) : Prop := ∀ (i : Nat) (a : Addr), p[i]? = some a → q[i]? = some a
theorem Pre.refl (p : List Addr) : Pre p p := fun _ _ h => h
theorem Pre.trans {p q r : List Addr} (h : Pre p q) (k : Pre q r) : Pre p r := fun i a e => k i a (h i a e)
theorem Pre.app (p : List Addr) (x : Addr) : Pre p (p ++ [x]) := fun i a e => by
  rw [List.getElem?_append_left]
  · exact e
  · exact (List.getElem?_eq_some_iff.mp e).1

theorem sqT_sub {K : PySem.W.Frag} {F F' : Hp} {a : Addr} {xs : List V} (s : Sub F F') (h : SqT K F a xs) : SqT K F' a xs := by
  rcases h with (h | ⟨o, h⟩) | h
  · exact .inl (.inl (s _ _ h))
  · exact .inl (.inr ⟨o, s _ _ h⟩)
  · exact .inr h
theorem sqL_sub {K : PySem.W.Frag} {F F' : Hp} {a : Addr} {xs : List V} (s : Sub F F') (h : SqL K F a xs) : SqL K F' a xs := by
  rcases h with (h | ⟨o, h⟩) | h
  · exact .inl (.inl (s _ _ h))
  · exact .inl (.inr ⟨o, s _ _ h⟩)
  · exact .inr h

section
variable (K : PySem.W.Frag)
mutual
def RT (F : Hp) : T → V → Prop
  | .non, v => v = .non
  | .bl b, v => v = .bl b
  | .int i, v => v = .int i
  | .str x, v => v = .str x
  | .tup l, v => ∃ a vs, v = .ref a ∧ SqT K F a vs ∧ RTs F l vs
  | .lst l, v => ∃ a vs, v = .ref a ∧ F a = some (.lst vs) ∧ RTs F l vs
  | .scr l, v => ∃ a, v = .ref a ∧ SqL K F a (l.map V.int)
def RTs (F : Hp) : List T → List V → Prop
  | [], vs => vs = []
  | t :: r, vs => ∃ v w, vs = v :: w ∧ RT F t v ∧ RTs F r w
end
mutual
def RD (p : List Addr) (F : Hp) : D → V → Prop
  | .t x, v => RT K F x v
  | .ref i, v => ∃ a, p[i]? = some a ∧ v = .ref a
  | .tup l, v => ∃ a vs, v = .ref a ∧ SqT K F a vs ∧ RDs p F l vs
  | .lst l, v => ∃ a vs, v = .ref a ∧ F a = some (.lst vs) ∧ RDs p F l vs
def RDs (p : List Addr) (F : Hp) : List D → List V → Prop
  | [], vs => vs = []
  | t :: r, vs => ∃ v w, vs = v :: w ∧ RD p F t v ∧ RDs p F r w
end
end
section
variable {K : PySem.W.Frag} {p q : List Addr} {F F' : Hp}
mutual
theorem RT.sub (s : Sub F F') : ∀ (t : T) (v : V), RT K F t v → RT K F' t v
  | .non, _, h => h
  | .bl _, _, h => h
  | .int _, _, h => h
  | .str _, _, h => h
  | .tup l, v, h => by
    obtain ⟨a, vs, e, h1, h2⟩ := h
    exact ⟨a, vs, e, sqT_sub s h1, RTs.sub s l vs h2⟩
  | .lst l, v, h => by
    obtain ⟨a, vs, e, h1, h2⟩ := h
    exact ⟨a, vs, e, s _ _ h1, RTs.sub s l vs h2⟩
  | .scr l, v, h => by
    obtain ⟨a, e, h1⟩ := h
    exact ⟨a, e, sqL_sub s h1⟩
theorem RTs.sub (s : Sub F F') : ∀ (l : List T) (vs : List V), RTs K F l vs → RTs K F' l vs
  | [], _, h => h
  | t :: r, vs, h => by
    obtain ⟨v, w, e, h1, h2⟩ := h
    exact ⟨v, w, e, RT.sub s t v h1, RTs.sub s r w h2⟩
end
mutual
theorem RD.sub (r : Pre p q) (s : Sub F F') : ∀ (d : D) (v : V), RD K p F d v → RD K q F' d v
  | .t x, v, h => RT.sub s x v h
  | .ref i, v, h => by
    obtain ⟨a, h1, h2⟩ := h
    exact ⟨a, r i a h1, h2⟩
  | .tup l, v, h => by
    obtain ⟨a, vs, e, h1, h2⟩ := h
    exact ⟨a, vs, e, sqT_sub s h1, RDs.sub r s l vs h2⟩
  | .lst l, v, h => by
    obtain ⟨a, vs, e, h1, h2⟩ := h
    exact ⟨a, vs, e, s _ _ h1, RDs.sub r s l vs h2⟩
theorem RDs.sub (r : Pre p q) (s : Sub F F') : ∀ (l : List D) (vs : List V), RDs K p F l vs → RDs K q F' l vs
  | [], _, h => h
  | d :: l, vs, h => by
    obtain ⟨v, w, e, h1, h2⟩ := h
    exact ⟨v, w, e, RD.sub r s d v h1, RDs.sub r s l w h2⟩
end
theorem RDs.length : ∀ {l : List D} {vs : List V}, RDs K p F l vs → l.length = vs.length
  | [], _, h => by cases h; rfl
  | d :: l, _, ⟨v, w, e, _, h⟩ => by subst e; rw [List.length_cons, List.length_cons, RDs.length h]
theorem RTs.length : ∀ {l : List T} {vs : List V}, RTs K F l vs → l.length = vs.length
  | [], _, h => by cases h; rfl
  | d :: l, _, ⟨v, w, e, _, h⟩ => by subst e; rw [List.length_cons, List.length_cons, RTs.length h]
theorem RTs.toD : ∀ {l : List T} {vs : List V}, RTs K F l vs → RDs K p F (l.map .t) vs
  | [], _, h => h
  | t :: l, _, ⟨v, w, e, h1, h⟩ => ⟨v, w, e, h1, RTs.toD h⟩
theorem RDs.get : ∀ {l : List D} {vs : List V} {i : Nat} {d : D}, RDs K p F l vs → l[i]? = some d → ∃ v, vs[i]? = some v ∧ RD K p F d v
  | [], _, _, _, _, h => by simp at h
  | x :: l, _, 0, d, ⟨v, w, e, h1, _⟩, h => by
    have : x = d := by simpa using h
    subst this; subst e
    exact ⟨v, rfl, h1⟩
  | x :: l, _, i + 1, d, ⟨v, w, e, _, h2⟩, h => by
    subst e
    obtain ⟨u, e1, e2⟩ := RDs.get (i := i) (d := d) h2 (by simpa using h)
    exact ⟨u, by simpa using e1, e2⟩
theorem RDs.app : ∀ {l m : List D} {vs ws : List V}, RDs K p F l vs → RDs K p F m ws → RDs K p F (l ++ m) (vs ++ ws)
  | [], _, _, _, h, k => by cases h; exact k
  | d :: l, m, _, ws, ⟨v, w, e, h1, h2⟩, k => by subst e; exact ⟨v, w ++ ws, rfl, h1, RDs.app h2 k⟩
theorem RDs.one {d : D} {v : V} (h : RD K p F d v) : RDs K p F [d] [v] := ⟨v, [], rfl, h, rfl⟩
theorem RDs.set : ∀ {l : List D} {vs : List V} {d : D} {v : V} (i : Nat), RDs K p F l vs → RD K p F d v → RDs K p F (l.set i d) (vs.set i v)
  | [], _, _, _, _, h, _ => by cases h; exact rfl
  | x :: l, _, d, v, 0, ⟨u, w, e, _, h2⟩, k => by subst e; exact ⟨v, w, rfl, k, h2⟩
  | x :: l, _, d, v, i + 1, ⟨u, w, e, h1, h2⟩, k => by subst e; exact ⟨u, w.set i v, rfl, h1, RDs.set i h2 k⟩
theorem RDs.take : ∀ {l : List D} {vs : List V} (n : Nat), RDs K p F l vs → RDs K p F (l.take n) (vs.take n)
  | _, _, 0, _ => rfl
  | [], _, _ + 1, h => by cases h; exact rfl
  | x :: l, _, n + 1, ⟨u, w, e, h1, h2⟩ => by subst e; exact ⟨u, w.take n, rfl, h1, RDs.take n h2⟩
theorem RDs.drop : ∀ {l : List D} {vs : List V} (n : Nat), RDs K p F l vs → RDs K p F (l.drop n) (vs.drop n)
  | _, _, 0, h => h
  | [], _, _ + 1, h => by cases h; exact rfl
  | x :: l, _, n + 1, ⟨u, w, e, h1, h2⟩ => by subst e; exact RDs.drop n h2
theorem RDs.cut {l : List D} {vs : List V} {lo hi : Option Int} (h : RDs K p F l vs) : RDs K p F (cut l lo hi) (cutV vs lo hi) := by
  unfold Rw.cut cutV
  rw [h.length]
  exact (h.drop _).take _
theorem RDs.at_ {l : List D} {vs : List V} {i : Int} {d : D} (h : RDs K p F l vs) (e : atI l i = some d) : ∃ v, atI vs i = some v ∧ RD K p F d v := by
  unfold atI at e ⊢
  rw [h.length] at e
  cases q : ixN vs.length i with
  | none => rw [q] at e; simp at e
  | some j =>
    rw [q] at e
    obtain ⟨v, e1, e2⟩ := h.get (i := j) (d := d) (by simpa using e)
    exact ⟨v, by simpa using e1, e2⟩
theorem RDs.dropLast {l : List D} {vs : List V} (h : RDs K p F l vs) : RDs K p F l.dropLast vs.dropLast := by
  rw [List.dropLast_eq_take, List.dropLast_eq_take, h.length]
  exact h.take _
/-- closed items -/
theorem RDs.allT : ∀ {l : List D} {vs : List V} {ts : List T}, RDs K p F l vs → allT l = some ts → RTs K F ts vs
  | [], _, ts, h, e => by
    have e1 : ts = [] := by
      have : (some [] : Option (List T)) = some ts := e
      exact (Option.some.inj this).symm
    subst e1; exact h
  | .t x :: l, _, ts, ⟨v, w, e0, h1, h2⟩, e => by
    have e1 : (match Rw.allT l with | some l => some (x :: l) | none => none) = some ts := e
    cases q : Rw.allT l with
    | none => rw [q] at e1; cases e1
    | some m =>
      rw [q] at e1
      have e2 : x :: m = ts := Option.some.inj e1
      subst e2
      exact ⟨v, w, e0, h1, RDs.allT h2 q⟩
  | .ref _ :: _, _, _, _, e => by cases e
  | .tup _ :: _, _, _, _, e => by cases e
  | .lst _ :: _, _, _, _, e => by cases e
theorem RDs.frzL {l : List D} {vs : List V} {a : Addr} (h : RDs K p F l vs) (e : F a = some (.lst vs)) : RD K p F (frzL l) (.ref a) := by
  unfold Rw.frzL
  cases q : Rw.allT l with
  | none => exact ⟨a, vs, rfl, e, h⟩
  | some ts => exact ⟨a, vs, rfl, e, h.allT q⟩
theorem RDs.frzT {l : List D} {vs : List V} {a : Addr} (h : RDs K p F l vs) (e : SqT K F a vs) : RD K p F (frzT l) (.ref a) := by
  unfold Rw.frzT
  cases q : Rw.allT l with
  | none => exact ⟨a, vs, rfl, e, h⟩
  | some ts => exact ⟨a, vs, rfl, e, h.allT q⟩
end

/-! ### the state -/
section
variable (K : PySem.W.Frag) (ca : Nat → Addr)
def RO (p : List Addr) (F H : Hp) : MO → Addr → Prop
  | .lst l, a => ∃ vs, H a = some (.lst vs) ∧ RDs K p F l vs
  | .dK l, a => ∃ kvs, H a = some (.dK kvs) ∧ Paired (fun (x : Key × D) (y : Key × V) => x.1 = y.1 ∧ RD K p F x.2 y.2) l kvs
  | .dT l, a => ∃ kvs, H a = some (.dT kvs) ∧ Paired (fun (x : List Key × D) (y : List Key × V) => x.1 = y.1 ∧ RD K p F x.2 y.2) l kvs
  | .obj c l, a => ∃ dx fs, H a = some (.ins (ca c) dx fs) ∧ Paired (fun (x : Str × D) (y : Str × V) => x.1 = y.1 ∧ RD K p F x.2 y.2) l fs
  | .gone, a => ∃ o, H a = some o
structure SR (p : List Addr) (F G : Hp) (M : Ar) (H : Hp) : Prop where
  len : p.length = M.length
  nd : p.Nodup
  fr : Sub F H
  gr : Sub G H
  fg : ∀ a, F a = none ∨ G a = none
  pf : ∀ a ∈ p, F a = none
  pg : ∀ a ∈ p, G a = none
  ob : ∀ (i : Nat) a o, p[i]? = some a → M[i]? = some o → RO K ca p F H o a
end
section
variable {K : PySem.W.Frag} {ca : Nat → Addr} {p q : List Addr} {F F' G H H' : Hp} {M : Ar}
theorem RO.sub (r : Pre p q) (s : Sub F F') {o : MO} {a : Addr} (e : H' a = H a) (h : RO K ca p F H o a) : RO K ca q F' H' o a := by
  cases o with
  | lst l => obtain ⟨vs, h1, h2⟩ := h; exact ⟨vs, e.trans h1, RDs.sub r s l vs h2⟩
  | dK l => obtain ⟨vs, h1, h2⟩ := h; exact ⟨vs, e.trans h1, Paired.mapP h2 fun x y z => ⟨z.1, RD.sub r s _ _ z.2⟩⟩
  | dT l => obtain ⟨vs, h1, h2⟩ := h; exact ⟨vs, e.trans h1, Paired.mapP h2 fun x y z => ⟨z.1, RD.sub r s _ _ z.2⟩⟩
  | obj c l => obtain ⟨dx, vs, h1, h2⟩ := h; exact ⟨dx, vs, e.trans h1, Paired.mapP h2 fun x y z => ⟨z.1, RD.sub r s _ _ z.2⟩⟩
  | gone => obtain ⟨o, h1⟩ := h; exact ⟨o, e.trans h1⟩
theorem RO.there {o : MO} {a : Addr} (h : RO K ca p F H o a) : ∃ u, H a = some u := by
  cases o with
  | lst l => obtain ⟨vs, h1, _⟩ := h; exact ⟨_, h1⟩
  | dK l => obtain ⟨vs, h1, _⟩ := h; exact ⟨_, h1⟩
  | dT l => obtain ⟨vs, h1, _⟩ := h; exact ⟨_, h1⟩
  | obj c l => obtain ⟨dx, vs, h1, _⟩ := h; exact ⟨_, h1⟩
  | gone => exact h
theorem SR.at_ (s : SR K ca p F G M H) {i : Nat} {o : MO} (h : M[i]? = some o) : ∃ a, p[i]? = some a ∧ a ∈ p ∧ RO K ca p F H o a := by
  have hi : i < p.length := by rw [s.len]; exact (List.getElem?_eq_some_iff.mp h).1
  have e : p[i]? = some p[i] := List.getElem?_eq_getElem hi
  exact ⟨p[i], e, List.getElem_mem hi, s.ob i _ o e h⟩
/-- a tracked address of ours is not new -/
theorem SR.ne (s : SR K ca p F G M H) {a : Addr} (n : H a = none) : a ∉ p ∧ F a = none ∧ G a = none := by
  refine ⟨fun h => ?_, ?_, ?_⟩
  · obtain ⟨i, hi, e⟩ := List.mem_iff_getElem.mp h
    have hM : i < M.length := by rw [← s.len]; exact hi
    obtain ⟨u, hu⟩ := (s.ob i a _ (by rw [List.getElem?_eq_getElem hi, e]) (List.getElem?_eq_getElem hM)).there
    rw [n] at hu; cases hu
  · cases e : F a with
    | none => rfl
    | some u => have := s.fr a u e; rw [n] at this; cases this
  · cases e : G a with
    | none => rfl
    | some u => have := s.gr a u e; rw [n] at this; cases this
/-- the heap has grown elsewhere -/
theorem SR.grow (s : SR K ca p F G M H) (h : ∀ a o, H a = some o → H' a = some o) : SR K ca p F G M H' :=
  ⟨s.len, s.nd, fun a o e => h a o (s.fr a o e), fun a o e => h a o (s.gr a o e), s.fg, s.pf, s.pg, fun i a o e1 e2 => by
    have r := s.ob i a o e1 e2
    obtain ⟨u, hu⟩ := r.there
    exact r.sub (Pre.refl _) (Sub.refl _) (by rw [hu]; exact h a u hu)⟩
theorem upd_grow {H : Hp} {a : Addr} {o : HO} (n : H a = none) : ∀ b u, H b = some u → upd H a o b = some u := fun b u e => by
  rw [upd_ne (ne_of_none e n)]; exact e
/-- a new frozen thing -/
theorem SR.newF (s : SR K ca p F G M H) {a : Addr} {o : HO} (n : H a = none) : Sub F (upd F a o) ∧ SR K ca p (upd F a o) G M (upd H a o) := by
  obtain ⟨n1, n2, n3⟩ := s.ne n
  have sb : Sub F (upd F a o) := fun b u e => by rw [upd_ne (ne_of_none e n2)]; exact e
  refine ⟨sb, s.len, s.nd, fun b u e => ?_, fun b u e => ?_, fun b => ?_, fun b hb => ?_, s.pg, fun i b u e1 e2 => ?_⟩
  · by_cases h : b = a
    · subst h; rw [upd_same] at e ⊢; exact e
    · rw [upd_ne h] at e ⊢; exact s.fr b u e
  · rw [upd_ne (ne_of_none e n3)]; exact s.gr b u e
  · by_cases h : b = a
    · subst h; exact .inr n3
    · rw [upd_ne h]; exact s.fg b
  · have : b ≠ a := fun e => n1 (e ▸ hb)
    rw [upd_ne this]; exact s.pf b hb
  · have r := s.ob i b u e1 e2
    obtain ⟨w, hw⟩ := r.there
    exact r.sub (Pre.refl _) sb (by rw [hw, upd_ne (ne_of_none hw n)]; exact hw)
/-- a new object of the arena -/
theorem SR.newM (s : SR K ca p F G M H) {a : Addr} {o : HO} {m : MO} (n : H a = none) (ro : RO K ca (p ++ [a]) F (upd H a o) m a) :
    Pre p (p ++ [a]) ∧ (p ++ [a])[M.length]? = some a ∧ SR K ca (p ++ [a]) F G (M ++ [m]) (upd H a o) := by
  obtain ⟨n1, n2, n3⟩ := s.ne n
  refine ⟨Pre.app p a, ?_, ?_, ?_, fun b u e => upd_grow n b u (s.fr b u e), fun b u e => upd_grow n b u (s.gr b u e), s.fg, fun b hb => ?_, fun b hb => ?_, fun i b u e1 e2 => ?_⟩
  · rw [← s.len]; simp
  · simp [s.len]
  · exact List.nodup_append.mpr ⟨s.nd, by simp, fun x hx y hy => by
      have : y = a := by simpa using hy
      subst this
      exact fun e => n1 (e ▸ hx)⟩
  · rcases List.mem_append.mp hb with h | h
    · exact s.pf b h
    · have : b = a := by simpa using h
      subst this; exact n2
  · rcases List.mem_append.mp hb with h | h
    · exact s.pg b h
    · have : b = a := by simpa using h
      subst this; exact n3
  · by_cases hi : i < M.length
    · have e1' : p[i]? = some b := by
        rw [List.getElem?_append_left (by rw [s.len]; exact hi)] at e1; exact e1
      have e2' : M[i]? = some u := by
        rw [List.getElem?_append_left hi] at e2; exact e2
      have r := s.ob i b u e1' e2'
      obtain ⟨w, hw⟩ := r.there
      exact r.sub (Pre.app p a) (Sub.refl _) (by rw [hw, upd_ne (ne_of_none hw n)]; exact hw)
    · have hl : i < (M ++ [m]).length := (List.getElem?_eq_some_iff.mp e2).1
      have hi' : i = M.length := by simp at hl; omega
      subst hi'
      have e1' : b = a := by
        rw [List.getElem?_append_right (by rw [s.len]; exact Nat.le_refl _), ← s.len] at e1
        simpa using e1.symm
      have e2' : u = m := by
        rw [List.getElem?_append_right (by omega)] at e2
        simpa using e2.symm
      subst e1' e2'
      exact ro
/-- an object of the arena has changed -/
theorem SR.set (s : SR K ca p F G M H) {i : Nat} {a : Addr} {o : HO} {m : MO} (hi : p[i]? = some a) (ro : RO K ca p F (upd H a o) m a) :
    SR K ca p F G (M.set i m) (upd H a o) := by
  have ha : a ∈ p := List.mem_of_getElem? hi
  have nf := s.pf a ha
  have ng := s.pg a ha
  refine ⟨by rw [List.length_set]; exact s.len, s.nd, fun b u e => ?_, fun b u e => ?_, s.fg, s.pf, s.pg, fun j b u e1 e2 => ?_⟩
  · rw [upd_ne (ne_of_none e nf)]; exact s.fr b u e
  · rw [upd_ne (ne_of_none e ng)]; exact s.gr b u e
  · by_cases hj : j = i
    · subst hj
      rw [hi] at e1; cases e1
      have hl : j < M.length := by rw [← s.len]; exact (List.getElem?_eq_some_iff.mp hi).1
      rw [List.getElem?_set_self hl] at e2
      cases e2
      exact ro
    · rw [List.getElem?_set_ne (Ne.symm hj)] at e2
      have r := s.ob j b u e1 e2
      have hb : b ≠ a := fun e => hj (nodup_ix' s.nd e1 (e ▸ hi))
      exact r.sub (Pre.refl _) (Sub.refl _) (by rw [upd_ne hb])
where
  nodup_ix' {N : List Addr} (hN : N.Nodup) {i j : Nat} {x : Addr} (a : N[i]? = some x) (b : N[j]? = some x) : i = j := by
    obtain ⟨h1, e1⟩ := List.getElem?_eq_some_iff.mp a
    obtain ⟨h2, e2⟩ := List.getElem?_eq_some_iff.mp b
    exact (List.getElem_inj hN).mp (e1.trans e2.symm)
end
end Rw
end

section
set_option Elab.async false
set_option linter.all false
set_option maxRecDepth 100000
/-! outcomes; values' rules -/
namespace Rw
open PySem PySem.Spec PyProof.Rows L2
section
variable (K : PySem.W.Frag) (ca : Nat → Addr)
def XR (F H : Hp) (c : Nat) (fs : List (Str × T)) (cls : Value) (d : Option Addr) : Prop :=
  cls = .ref (ca c) ∧ match fs with
    | [] => d = none
    | fs => ∃ a vs, d = some a ∧ H a = some (.xd vs) ∧ Paired (fun (x : Str × T) (y : Str × V) => x.1 = y.1 ∧ RT K F x.2 y.2) fs vs
/-- what is wanted of an outcome -/
def Tk {α β : Type} (rel : List Addr → Hp → α → β → Prop) (W : XK) (G : Hp) (p : List Addr) (F : Hp) (r : Res α) (Q : β → Hp → Prop) : Prop := match r with
  | .ok a M => ∀ p' F' H' v, Pre p p' → Sub F F' → SR K ca p' F' G M H' → rel p' F' a v → Q v H'
  | .exc c fs M => ∀ p' F' H' cls d, Pre p p' → Sub F F' → SR K ca p' F' G M H' → XR K ca F' H' c fs cls d → W cls d H'
  | .stuck => False
def ER (p : List Addr) (F : Hp) (r : En) (σ : L2.St) : Prop := r.length = σ.length ∧ ∀ (i : Nat) (d : D), r[i]? = some (some d) → ∃ v, σ[i]? = some (some v) ∧ RD K p F d v
def TEo (W : XK) (f : En → Ar → Res D) : TE := fun σ H Q => ∃ p F G r M, SR K ca p F G M H ∧ ER K p F r σ ∧ Tk K ca (RD K) W G p F (f r M) Q
def TAo (W : XK) (f : En → Ar → Res (List D)) : TA := fun σ H Q => ∃ p F G r M, SR K ca p F G M H ∧ ER K p F r σ ∧ Tk K ca (RDs K) W G p F (f r M) Q
def TTo (W : XK) (f : En → Ar → Res Bool) : TT := fun σ H Q => ∃ p F G r M, SR K ca p F G M H ∧ ER K p F r σ ∧ Tk K ca (fun _ _ (a b : Bool) => a = b) W G p F (f r M) Q
end
section
variable {K : PySem.W.Frag} {ca : Nat → Addr} {p p' : List Addr} {F F' G H H' : Hp} {M : Ar} {W : XK} {α β γ δ : Type} {rel : List Addr → Hp → α → β → Prop} {rel' : List Addr → Hp → γ → δ → Prop}
theorem ER.sub {r : En} {σ : L2.St} (h : ER K p F r σ) (a : Pre p p') (s : Sub F F') : ER K p' F' r σ :=
  ⟨h.1, fun i d e => let ⟨v, h1, h2⟩ := h.2 i d e; ⟨v, h1, RD.sub a s d v h2⟩⟩
theorem Tk.mono {r : Res α} {Q Q' : β → Hp → Prop} (h : Tk K ca rel W G p F r Q) (k : ∀ v H, Q v H → Q' v H) : Tk K ca rel W G p F r Q' := by
  cases r with
  | ok a M => exact fun p' F' H' v h1 h2 h3 h4 => k _ _ (h p' F' H' v h1 h2 h3 h4)
  | exc c fs M => exact h
  | stuck => exact h
theorem Tk.bind {r : Res α} {f : α → Ar → Res γ} {Q : δ → Hp → Prop} (h : Tk K ca rel' W G p F (r.bind f) Q) :
    Tk K ca rel W G p F r (fun v H' => ∃ p' F' a M', Pre p p' ∧ Sub F F' ∧ SR K ca p' F' G M' H' ∧ rel p' F' a v ∧ r = .ok a M' ∧ Tk K ca rel' W G p' F' (f a M') Q) := by
  cases r with
  | ok a M =>
    intro p' F' H' v h1 h2 h3 h4
    refine ⟨p', F', a, M, h1, h2, h3, h4, rfl, ?_⟩
    have h' : Tk K ca rel' W G p F (f a M) Q := h
    cases e : f a M with
    | ok b M2 => rw [e] at h'; exact fun p2 F2 H2 v2 k1 k2 k3 k4 => h' p2 F2 H2 v2 (h1.trans k1) (h2.trans k2) k3 k4
    | exc c fs M2 => rw [e] at h'; exact fun p2 F2 H2 v2 d2 k1 k2 k3 k4 => h' p2 F2 H2 v2 d2 (h1.trans k1) (h2.trans k2) k3 k4
    | stuck => rw [e] at h'; exact h'
  | exc c fs M => exact h
  | stuck => exact h
theorem Tk.ok {a : α} {v : β} {Q : β → Hp → Prop} (h : Tk K ca rel W G p F (.ok a M) Q) (s : SR K ca p F G M H) (r : rel p F a v) : Q v H :=
  h p F H v (Pre.refl _) (Sub.refl _) s r
theorem Tk.okIf {c : Bool} {r : Res α} {Q : β → Hp → Prop} (h : Tk K ca rel W G p F (okIf c r) Q) : c = true ∧ Tk K ca rel W G p F r Q := by
  cases c with
  | true => exact ⟨rfl, h⟩
  | false => exact False.elim h

/-! ### containers -/
theorem mkL_ok {mu : Bool} {l : List D} {vs : List V} {Q : VK} (s : SR K ca p F G M H) (r : RDs K p F l vs) (h : Tk K ca (RD K) W G p F (mkL mu l M) Q) {a : Addr} (n : H a = none) : Q (.ref a) (upd H a (.lst vs)) := by
  cases mu with
  | true =>
    obtain ⟨h1, h2, h3⟩ := s.newM (m := .lst l) (o := .lst vs) n ⟨vs, upd_same, RDs.sub (Pre.app p a) (Sub.refl _) l vs r⟩
    exact h _ _ _ _ h1 (Sub.refl _) h3 ⟨a, h2, rfl⟩
  | false =>
    obtain ⟨h1, h2⟩ := s.newF (o := .lst vs) n
    exact h _ _ _ _ (Pre.refl _) h1 h2 (RDs.frzL (RDs.sub (Pre.refl _) h1 l vs r) upd_same)
theorem mkT_ok {l : List D} {vs : List V} {Q : VK} (s : SR K ca p F G M H) (r : RDs K p F l vs) (h : Tk K ca (RD K) W G p F (.ok (frzT l) M) Q) {a : Addr} (n : H a = none) : Q (.ref a) (upd H a (.tup vs)) := by
  obtain ⟨h1, h2⟩ := s.newF (o := .tup vs) n
  exact h _ _ _ _ (Pre.refl _) h1 h2 (RDs.frzT (RDs.sub (Pre.refl _) h1 l vs r) (SqT.of upd_same))
theorem lsOf_ok {d : D} {v : V} {l : List D} (s : SR K ca p F G M H) (r : RD K p F d v) (e : lsOf M d = some l) : ∃ a vs, v = .ref a ∧ H a = some (.lst vs) ∧ RDs K p F l vs := by
  cases d with
  | t x =>
    cases x with
    | lst m =>
      have e1 : m.map D.t = l := Option.some.inj e
      subst e1
      obtain ⟨a, vs, e2, h1, h2⟩ := r
      exact ⟨a, vs, e2, s.fr _ _ h1, RTs.toD h2⟩
    | _ => cases e
  | ref i =>
    obtain ⟨a, h1, h2⟩ := r
    have e1 : (match M[i]? with | some (.lst l) => some l | _ => none) = some l := e
    cases q : M[i]? with
    | none => rw [q] at e1; cases e1
    | some o =>
      rw [q] at e1
      cases o with
      | lst m =>
        have e2 : m = l := Option.some.inj e1
        subst e2
        obtain ⟨vs, k1, k2⟩ := s.ob i a _ h1 q
        exact ⟨a, vs, h2, k1, k2⟩
      | _ => cases e1
  | tup m => cases e
  | lst m =>
    have e1 : m = l := Option.some.inj e
    subst e1
    obtain ⟨a, vs, e2, h1, h2⟩ := r
    exact ⟨a, vs, e2, s.fr _ _ h1, h2⟩
theorem tpOf_ok {d : D} {v : V} {l : List D} (s : SR K ca p F G M H) (r : RD K p F d v) (e : tpOf d = some l) : ∃ a vs, v = .ref a ∧ SqT K F a vs ∧ RDs K p F l vs := by
  cases d with
  | t x =>
    cases x with
    | tup m =>
      have e1 : m.map D.t = l := Option.some.inj e
      subst e1
      obtain ⟨a, vs, e2, h1, h2⟩ := r
      exact ⟨a, vs, e2, h1, RTs.toD h2⟩
    | _ => cases e
  | ref i => cases e
  | lst m => cases e
  | tup m =>
    have e1 : m = l := Option.some.inj e
    subst e1
    exact r
theorem ints_RDs : ∀ (l : List Int), RDs K p F (l.map fun i => D.t (.int i)) (l.map V.int)
  | [] => rfl
  | i :: l => ⟨.int i, l.map V.int, rfl, rfl, ints_RDs l⟩
theorem scOf_ok {d : D} {v : V} {l : List D} (r : RD K p F d v) (e : scOf d = some l) : ∃ a vs, v = .ref a ∧ SqL K F a vs ∧ RDs K p F l vs := by
  cases d with
  | t x =>
    cases x with
    | scr m =>
      have e1 : m.map (fun i => D.t (.int i)) = l := Option.some.inj e
      subst e1
      obtain ⟨a, e2, h1⟩ := r
      exact ⟨a, _, e2, h1, ints_RDs m⟩
    | _ => cases e
  | _ => cases e
theorem sqOf_ok {d : D} {v : V} {l : List D} (s : SR K ca p F G M H) (r : RD K p F d v) (e : sqOf M d = some l) : ∃ a vs, v = .ref a ∧ (SqL K H a vs ∨ SqT K H a vs) ∧ RDs K p F l vs := by
  unfold sqOf at e
  cases q : lsOf M d with
  | some m =>
    rw [q] at e
    have e1 : m = l := Option.some.inj e
    subst e1
    obtain ⟨a, vs, h1, h2, h3⟩ := lsOf_ok s r q
    exact ⟨a, vs, h1, .inl (SqL.of h2), h3⟩
  | none =>
    rw [q] at e
    cases q2 : tpOf d with
    | some m =>
      rw [q2] at e
      have e1 : m = l := Option.some.inj e
      subst e1
      obtain ⟨a, vs, h1, h2, h3⟩ := tpOf_ok s r q2
      exact ⟨a, vs, h1, .inr (sqT_sub s.fr h2), h3⟩
    | none =>
      rw [q2] at e
      obtain ⟨a, vs, h1, h2, h3⟩ := scOf_ok r e
      exact ⟨a, vs, h1, .inl (sqL_sub s.fr h2), h3⟩
/-- lists and tuples are references -/
theorem lsOf_ref {d : D} {v : V} {l : List D} (s : SR K ca p F G M H) (r : RD K p F d v) (e : lsOf M d = some l) : ∃ a, v = .ref a := let ⟨a, _, h, _⟩ := lsOf_ok s r e; ⟨a, h⟩
end
end Rw
end

section
set_option Elab.async false
set_option linter.all false
set_option maxRecDepth 100000
/-! values' rules -/
namespace Rw
open PySem PySem.Spec PyProof.Rows L2
/-- what is tracked, and the arena's objects too -/
noncomputable def ext (F : Hp) (p : List Addr) (H : Hp) : Hp := fun a => match F a with
  | some o => some o
  | none => if a ∈ p then H a else none
section
variable {K : PySem.W.Frag} {ca : Nat → Addr} {p p' : List Addr} {F F' G H H' : Hp} {M : Ar}
theorem ext_sub : Sub F (ext F p H) := fun a o e => by unfold ext; rw [e]
theorem ext_in (s : Sub F H) : Sub (ext F p H) H := fun a o e => by
  unfold ext at e
  cases q : F a with
  | some u => rw [q] at e; cases e; exact s a _ q
  | none =>
    rw [q] at e
    by_cases h : a ∈ p
    · simpa [h] using e
    · simp [h] at e
theorem ext_at {a : Addr} (n : F a = none) (h : a ∈ p) : ext F p H a = H a := by unfold ext; rw [n]; simp [h]
theorem ext_none {a : Addr} (n : F a = none) (h : a ∉ p) : ext F p H a = none := by unfold ext; rw [n]; simp [h]
theorem ext_cases {a : Addr} {o : HO} (e : ext F p H a = some o) : F a = some o ∨ (F a = none ∧ a ∈ p ∧ H a = some o) := by
  cases q : F a with
  | some u => unfold ext at e; rw [q] at e; exact .inl e
  | none =>
    by_cases h : a ∈ p
    · rw [ext_at q h] at e; exact .inr ⟨rfl, h, e⟩
    · rw [ext_none q h] at e; cases e

theorem mapO_cons {α β : Type} {f : α → Option β} {a : α} {r : List α} {m : List β} (e : mapO f (a :: r) = some m) : ∃ b l, f a = some b ∧ mapO f r = some l ∧ m = b :: l := by
  unfold mapO at e
  split at e
  · rename_i b h1
    split at e
    · rename_i l h2
      exact ⟨b, l, h1, h2, (Option.some.inj e).symm⟩
    · cases e
  · cases e
theorem mapO_ok {n : Nat} (ih : ∀ (d : D) (t : T) (v : V), RD K p F d v → snap M n d = some t → RT K F' t v) :
    ∀ (l : List D) (ts : List T) (vs : List V), RDs K p F l vs → mapO (snap M n) l = some ts → RTs K F' ts vs
  | [], ts, vs, h, e => by
    have e1 : ts = [] := (Option.some.inj (show (some [] : Option (List T)) = some ts from e)).symm
    subst e1; exact h
  | d :: l, ts, vs, ⟨v, w, e0, h1, h2⟩, e => by
    obtain ⟨t, m, q, q2, e2⟩ := mapO_cons e
    subst e2
    exact ⟨v, w, e0, ih d t v h1 q, mapO_ok ih l m w h2 q2⟩
theorem snap_rt (s : SR K ca p F G M H) : ∀ (n : Nat) (d : D) (t : T) (v : V), RD K p F d v → snap M n d = some t → RT K (ext F p H) t v
  | n, .t x, t, v, h, e => by
    have e1 : x = t := by cases n <;> exact Option.some.inj e
    subst e1
    exact RT.sub ext_sub x v h
  | 0, .ref _, _, _, _, e => by cases e
  | 0, .tup _, _, _, _, e => by cases e
  | 0, .lst _, _, _, _, e => by cases e
  | n + 1, .ref i, t, v, h, e => by
    obtain ⟨a, h1, h2⟩ := h
    have e1 : (match M[i]? with | some (.lst l) => (mapO (snap M n) l).map T.lst | _ => none) = some t := e
    cases q : M[i]? with
    | none => rw [q] at e1; cases e1
    | some o =>
      rw [q] at e1
      cases o with
      | lst m =>
        obtain ⟨vs, k1, k2⟩ := s.ob i a _ h1 q
        dsimp only at e1
        cases q2 : mapO (snap M n) m with
        | none => rw [q2] at e1; cases e1
        | some ts =>
          rw [q2] at e1
          have e2 : T.lst ts = t := Option.some.inj e1
          subst e2
          have ha : a ∈ p := List.mem_of_getElem? h1
          exact ⟨a, vs, h2, by rw [ext_at (s.pf a ha) ha]; exact k1, mapO_ok (snap_rt s n) m ts vs k2 q2⟩
      | _ => cases e1
  | n + 1, .tup m, t, v, h, e => by
    obtain ⟨a, vs, h1, h2, h3⟩ := h
    have e1 : (mapO (snap M n) m).map T.tup = some t := e
    cases q2 : mapO (snap M n) m with
    | none => rw [q2] at e1; cases e1
    | some ts =>
      rw [q2] at e1
      have e2 : T.tup ts = t := Option.some.inj e1
      subst e2
      exact ⟨a, vs, h1, sqT_sub ext_sub h2, mapO_ok (snap_rt s n) m ts vs h3 q2⟩
  | n + 1, .lst m, t, v, h, e => by
    obtain ⟨a, vs, h1, h2, h3⟩ := h
    have e1 : (mapO (snap M n) m).map T.lst = some t := e
    cases q2 : mapO (snap M n) m with
    | none => rw [q2] at e1; cases e1
    | some ts =>
      rw [q2] at e1
      have e2 : T.lst ts = t := Option.some.inj e1
      subst e2
      exact ⟨a, vs, h1, ext_sub _ _ h2, mapO_ok (snap_rt s n) m ts vs h3 q2⟩
mutual
theorem rt_dp (s : Sub F H) : ∀ (t : T) (v : V), RT K F t v → (toPy t).canLay0 = true → Dp K H v (toPy t)
  | .non, v, h, _ => by cases h; exact .non
  | .bl b, v, h, _ => by cases h; exact .bl b
  | .int i, v, h, _ => by cases h; exact .int i
  | .str x, v, h, _ => by cases h; exact .str x
  | .tup l, v, h, e => by
    obtain ⟨a, vs, h1, h2, h3⟩ := h
    subst h1
    exact .tup (sqT_sub s h2) (rts_dp s l vs h3 (by simpa [toPy, PyData.canLay0] using e))
  | .lst l, v, h, e => by
    obtain ⟨a, vs, h1, h2, h3⟩ := h
    subst h1
    exact .lst (SqL.of (s _ _ h2)) (rts_dp s l vs h3 (by simpa [toPy, PyData.canLay0] using e))
  | .scr l, v, h, e => by simp [toPy, PyData.canLay0] at e
theorem rts_dp (s : Sub F H) : ∀ (l : List T) (vs : List V), RTs K F l vs → PyData.canLayAll0 (toPys l) = true → DpAll K H vs (toPys l)
  | [], vs, h, _ => by cases h; exact .nil
  | t :: l, vs, ⟨v, w, e0, h1, h2⟩, e => by
    subst e0
    have e' : (toPy t).canLay0 = true ∧ PyData.canLayAll0 (toPys l) = true := by simpa [toPys, PyData.canLayAll0] using e
    exact .cons (rt_dp s t v h1 e'.1) (rts_dp s l w h2 e'.2)
end
theorem scV_rel {d : D} {v u : V} (r : RD K p F d v) (e : scV d = some u) : v = u ∧ flatV u = true := by
  cases d with
  | t x =>
    cases x with
    | non => exact ⟨r.trans (Option.some.inj e), by have := Option.some.inj e; subst this; rfl⟩
    | bl b => exact ⟨r.trans (Option.some.inj e), by have := Option.some.inj e; subst this; rfl⟩
    | int b => exact ⟨r.trans (Option.some.inj e), by have := Option.some.inj e; subst this; rfl⟩
    | str b => exact ⟨r.trans (Option.some.inj e), by have := Option.some.inj e; subst this; rfl⟩
    | _ => cases e
  | _ => cases e
theorem scVs_rel : ∀ {l : List D} {vs us : List V}, RDs K p F l vs → mapO scV l = some us → vs = us ∧ us.all flatV = true
  | [], vs, us, h, e => by
    have e1 : us = [] := (Option.some.inj (show (some [] : Option (List V)) = some us from e)).symm
    subst e1; exact ⟨h, rfl⟩
  | d :: l, vs, us, ⟨v, w, e0, h1, h2⟩, e => by
    obtain ⟨t, m, q, q2, e2⟩ := mapO_cons e
    subst e2
    obtain ⟨k1, k2⟩ := scV_rel h1 q
    obtain ⟨k3, k4⟩ := scVs_rel h2 q2
    subst e0
    exact ⟨by rw [k1, k3], by simp [k2, k4]⟩
end

section
variable {X : Cx} {ca : Nat → Addr}
def rV (K : PySem.W.Frag) (ca : Nat → Addr) (f : D → D → Ar → Res D) : R2 := fun x y H Q => ∃ p F G M d e W, SR K ca p F G M H ∧ RD K p F d x ∧ RD K p F e y ∧ Tk K ca (RD K) W G p F (f d e M) Q
def binO : BinK → Operator
  | .add => .Add | .sub => .Sub | .mul => .Mult | .fdiv => .FloorDiv | .mod => .Mod | .pow => .Pow
theorem line_eq : line = sizeLine := by rw [sizeLine_eq]; rfl
theorem bin_list {K : PySem.W.Frag} {p : List Addr} {F G : Hp} {M : Ar} {W : XK} {o : BinK} {mu : Bool} {d e : D} {x y : V} {Q : VK} (hu : ∀ i j, ¬ (d = .t (.int i) ∧ e = .t (.int j))) (h : Tk K ca (RD K) W G p F (binV o mu d e M) Q) :
    (∃ l m, o = .add ∧ lsOf M d = some l ∧ lsOf M e = some m ∧ Tk K ca (RD K) W G p F (mkLn mu (l ++ m) M) Q) ∨ (∃ l k, o = .mul ∧ lsOf M d = some l ∧ e = .t (.int k) ∧ Tk K ca (RD K) W G p F (repL mu l k M) Q) := by
  unfold binV at h
  split at h
  · rename_i i j
    exact absurd ⟨rfl, rfl⟩ (hu i j)
  · split at h
    · rename_i l m h1 h2
      exact .inl ⟨l, m, rfl, h1, h2, h⟩
    · rename_i l h1 h2
      split at h
      · exact .inr ⟨l, _, rfl, h1, rfl, h⟩
      · exact h.elim
    · exact h.elim
theorem op_binV (o : BinK) (mu : Bool) : OpR X (binaryOp (binO o)) (rV X.K ca (binV o mu)) := by
  intro pins s σ H x y v u Q I rx ry h
  obtain ⟨p, F, G, M, d, e, W, sr, rd, re, h⟩ := h
  by_cases hi : ∃ i j, d = .t (.int i) ∧ e = .t (.int j)
  · obtain ⟨i, j, rfl, rfl⟩ := hi
    have ex : x = .int i := rd
    have ey : y = .int j := re
    subst ex ey
    cases o with
    | add => exact op_add pins s σ H _ _ v u Q I rx ry ⟨i, j, rfl, rfl, h.ok sr rfl⟩
    | sub => exact op_sub pins s σ H _ _ v u Q I rx ry ⟨i, j, rfl, rfl, h.ok sr rfl⟩
    | mul =>
      obtain ⟨h1, h2⟩ := Tk.okIf h
      refine op_mul pins s σ H _ _ v u Q I rx ry ⟨i, j, rfl, rfl, ?_, h2.ok sr rfl⟩
      simpa [CMul] using h1
    | fdiv =>
      obtain ⟨h1, h2⟩ := Tk.okIf h
      refine op_fdiv pins s σ H _ _ v u Q I rx ry ⟨i, j, rfl, rfl, ?_, h2.ok sr rfl⟩
      simpa [CDiv] using h1
    | mod =>
      obtain ⟨h1, h2⟩ := Tk.okIf h
      exact op_mod pins s σ H _ _ v u Q I rx ry ⟨i, j, rfl, rfl, of_decide_eq_true h1, h2.ok sr rfl⟩
    | pow =>
      obtain ⟨h1, h2⟩ := Tk.okIf h
      refine op_pow pins s σ H _ _ v u Q I rx ry ⟨i, j, rfl, rfl, ?_, h2.ok sr rfl⟩
      simp only [Bool.and_eq_true, decide_eq_true_eq] at h1
      exact ⟨h1.1.1, h1.1.2, h1.2⟩
  · rcases bin_list (x := x) (y := y) (fun i j q => hi ⟨i, j, q⟩) h with ⟨l, m, rfl, h1, h2, h⟩ | ⟨l, k, rfl, h1, rfl, hm⟩
    · obtain ⟨a, vs, rfl, k1, k2⟩ := lsOf_ok sr rd h1
      obtain ⟨b, ws, rfl, k3, k4⟩ := lsOf_ok sr re h2
      obtain ⟨z1, z2⟩ := Tk.okIf h
      have z3 := of_decide_eq_true z1
      rw [List.length_append, k2.length, k4.length, line_eq] at z3
      exact op_cat pins s σ H _ _ v u Q I rx ry ⟨a, b, vs, ws, rfl, rfl, k1, k3, z3, fun q hq => mkL_ok sr (k2.app k4) z2 hq⟩
    · obtain ⟨a, vs, rfl, k1, k2⟩ := lsOf_ok sr rd h1
      have ey : y = .int k := re
      subst ey
      obtain ⟨z1, z2⟩ := Tk.okIf hm
      simp only [Bool.and_eq_true, decide_eq_true_eq] at z1
      rw [k2.length, line_eq] at z1
      have rep : ∀ n : Nat, RDs X.K p F (List.replicate n l).flatten (List.replicate n vs).flatten := fun n => by
        induction n with
        | zero => exact rfl
        | succ n ih => rw [List.replicate_succ, List.replicate_succ, List.flatten_cons, List.flatten_cons]; exact k2.app ih
      exact op_rep pins s σ H _ _ v u Q I rx ry ⟨a, k, vs, rfl, rfl, k1, z1.1.1, z1.1.2, z1.2, fun q hq => mkL_ok sr (rep _) z2 hq⟩
def cmpO : CmpK → CmpOp
  | .eq => .Eq | .ne => .NotEq | .lt => .Lt | .le => .LtE | .gt => .Gt | .ge => .GtE | .isIn => .In | .notIn => .NotIn
theorem shaped_lay {d : PyData} (h : SeqAt.shaped d = true) : d.canLay0 = true := SeqAt.canLay_of_shaped h
theorem eqV2_ok {K : PySem.W.Frag} {p : List Addr} {F G H : Hp} {M : Ar} {W : XK} {d e : D} {x y : V} {Q : VK} {k : Bool → Bool} (sr : SR K ca p F G M H) (rd : RD K p F d x) (re : RD K p F e y) (h : Tk K ca (RD K) W G p F (eqV2 M d e k) Q) :
    ∃ a b, Dp K H x a ∧ Dp K H y b ∧ SeqAt.shaped a = true ∧ SeqAt.shaped b = true ∧ Q (.bl (k (PyData.eqv a b))) H := by
  unfold eqV2 at h
  cases q1 : snap M deep d with
  | none => rw [q1] at h; exact h.elim
  | some a =>
    cases q2 : snap M deep e with
    | none => rw [q1, q2] at h; exact h.elim
    | some b =>
      rw [q1, q2] at h
      obtain ⟨z1, z2⟩ := Tk.okIf h
      obtain ⟨s1, s2⟩ := Bool.and_eq_true_iff.mp z1
      have r1 := snap_rt sr deep d a x rd q1
      have r2 := snap_rt sr deep e b y re q2
      exact ⟨toPy a, toPy b, rt_dp (ext_in sr.fr) a x r1 (shaped_lay s1), rt_dp (ext_in sr.fr) b y r2 (shaped_lay s2), s1, s2, z2.ok sr rfl⟩
theorem inV2_ok {K : PySem.W.Frag} {p : List Addr} {F G H : Hp} {M : Ar} {W : XK} {d e : D} {x y : V} {Q : VK} {k : Bool → Bool} (sr : SR K ca p F G M H) (rd : RD K p F d x) (re : RD K p F e y) (h : Tk K ca (RD K) W G p F (inV2 M d e k) Q) :
    ∃ a vs, y = .ref a ∧ (SqL K H a vs ∨ SqT K H a vs) ∧ flatV x = true ∧ vs.all flatV = true ∧ Q (.bl (k (inV x vs))) H := by
  unfold inV2 at h
  cases q1 : scV d with
  | none => rw [q1] at h; exact h.elim
  | some v =>
    cases q2 : sqOf M e with
    | none => rw [q1, q2] at h; exact h.elim
    | some l =>
      rw [q1, q2] at h
      obtain ⟨e1, f1⟩ := scV_rel rd q1
      subst e1
      obtain ⟨a, vs, e2, h1, h2⟩ := sqOf_ok sr re q2
      cases q3 : mapO scV l with
      | none => simp only [Option.bind_some, q3] at h; exact h.elim
      | some us =>
        simp only [Option.bind_some, q3] at h
        obtain ⟨e3, f2⟩ := scVs_rel h2 q3
        subst e3
        exact ⟨a, vs, e2, h1, f1, f2, h.ok sr rfl⟩
theorem op_cmpV (o : CmpK) (hu : X.A.units + 64 < cLine) : OpR X (compareOp (cmpO o)) (rV X.K ca (cmpV o)) := by
  intro pins s σ H x y v u Q I rx ry h
  obtain ⟨p, F, G, M, d, e, W, sr, rd, re, h⟩ := h
  have hints : ∀ {o : CmpK} {f : Int → Int → Bool}, (∀ i j, cmpI o i j = some (f i j)) → Tk X.K ca (RD X.K) W G p F (cmpN o d e M) Q → ∃ i j, x = .int i ∧ y = .int j ∧ Q (.bl (f i j)) H := fun {o f} hf h => by
    by_cases hi : ∃ i j, d = .t (.int i) ∧ e = .t (.int j)
    · obtain ⟨i, j, e1, e2⟩ := hi
      subst e1 e2
      unfold cmpN at h
      simp only [hf i j] at h
      exact ⟨i, j, rd, re, h.ok sr rfl⟩
    · unfold cmpN at h
      split at h
      · exact absurd ⟨_, _, rfl, rfl⟩ hi
      · exact h.elim
  cases o with
  | eq =>
    obtain ⟨a, b, h1, h2, h3, h4, q⟩ := eqV2_ok sr rd re (show Tk X.K ca (RD X.K) W G p F (eqV2 M d e id) Q from h)
    exact op_eqD hu pins s σ H x y v u Q I rx ry ⟨a, b, h1, h2, h3, h4, q⟩
  | ne =>
    obtain ⟨a, b, h1, h2, h3, h4, q⟩ := eqV2_ok sr rd re (show Tk X.K ca (RD X.K) W G p F (eqV2 M d e not) Q from h)
    exact op_neD hu pins s σ H x y v u Q I rx ry ⟨a, b, h1, h2, h3, h4, q⟩
  | isIn =>
    obtain ⟨a, vs, h1, h2, h3, h4, q⟩ := inV2_ok sr rd re (show Tk X.K ca (RD X.K) W G p F (inV2 M d e id) Q from h)
    exact op_in_seq pins s σ H x y v u Q I rx ry ⟨a, vs, h1, h2, h3, h4, q⟩
  | notIn =>
    obtain ⟨a, vs, h1, h2, h3, h4, q⟩ := inV2_ok sr rd re (show Tk X.K ca (RD X.K) W G p F (inV2 M d e not) Q from h)
    exact op_notIn_seq pins s σ H x y v u Q I rx ry ⟨a, vs, h1, h2, h3, h4, q⟩
  | lt =>
    obtain ⟨i, j, e1, e2, q⟩ := hints (o := .lt) (f := fun i j => decide (i < j)) (fun _ _ => rfl) h
    exact op_lt pins s σ H x y v u Q I rx ry ⟨i, j, e1, e2, q⟩
  | le =>
    obtain ⟨i, j, e1, e2, q⟩ := hints (o := .le) (f := fun i j => decide (i ≤ j)) (fun _ _ => rfl) h
    exact op_le pins s σ H x y v u Q I rx ry ⟨i, j, e1, e2, q⟩
  | gt =>
    obtain ⟨i, j, e1, e2, q⟩ := hints (o := .gt) (f := fun i j => decide (j < i)) (fun _ _ => rfl) h
    exact op_gt pins s σ H x y v u Q I rx ry ⟨i, j, e1, e2, q⟩
  | ge =>
    obtain ⟨i, j, e1, e2, q⟩ := hints (o := .ge) (f := fun i j => decide (j ≤ i)) (fun _ _ => rfl) h
    exact op_ge pins s σ H x y v u Q I rx ry ⟨i, j, e1, e2, q⟩
theorem ix_V : IxR X (rV X.K ca idxV) := by
  have key : ∀ {H x y Q}, rV X.K ca idxV x y H Q → rIx X.K x y H Q := fun {H x y Q} h => by
    obtain ⟨p, F, G, M, d, e, W, sr, rd, re, h⟩ := h
    unfold idxV at h
    split at h
    · rename_i l i q1
      obtain ⟨a, vs, rfl, h1, h2⟩ := sqOf_ok sr rd q1
      have ey : y = .int i := re
      subst ey
      cases q2 : atI l i with
      | none => rw [q2] at h; exact h.elim
      | some d' =>
        rw [q2] at h
        obtain ⟨v, e1, e2⟩ := h2.at_ q2
        rcases h1 with h1 | h1
        · exact .inl ⟨a, vs, i, v, rfl, rfl, h1, e1, h.ok sr e2⟩
        · exact .inr (.inl ⟨a, vs, i, v, rfl, rfl, h1, e1, h.ok sr e2⟩)
    · exact h.elim
  intro value slice pins s σ H x y v u Q I rx ry h hs
  exact ix_seq (X := X) value slice pins s σ H x y v u Q I rx ry (key h) hs
end
end Rw
end

section
set_option Elab.async false
set_option linter.all false
set_option maxRecDepth 100000
/-! values' rules: slices, built-ins, methods, objects, calls -/
namespace Rw
open PySem PySem.Spec PyProof.Rows L2
section
variable {K : PySem.W.Frag} {ca : Nat → Addr} {p : List Addr} {F G H H' : Hp} {M : Ar}
/-- a new thing of the frame -/
theorem SR.addG (s : SR K ca p F G M H) {a : Addr} {o : HO} (n : H a = none) : SR K ca p F (upd G a o) M (upd H a o) := by
  obtain ⟨n1, n2, n3⟩ := s.ne n
  have s1 := s.grow (upd_grow (o := o) n)
  refine ⟨s1.len, s1.nd, s1.fr, fun b u e => ?_, fun b => ?_, s1.pf, fun b hb => ?_, s1.ob⟩
  · by_cases h : b = a
    · subst h; rw [upd_same] at e ⊢; exact e
    · rw [upd_ne h] at e; exact s1.gr b u e
  · by_cases h : b = a
    · subst h; exact .inl n2
    · rw [upd_ne h]; exact s.fg b
  · have : b ≠ a := fun e => n1 (e ▸ hb)
    rw [upd_ne this]; exact s.pg b hb
theorem SR.lessG {G' : Hp} (s : SR K ca p F G M H) (h : Sub G' G) : SR K ca p F G' M H := by
  refine ⟨s.len, s.nd, s.fr, h.trans s.gr, fun a => ?_, s.pf, fun a ha => ?_, s.ob⟩
  · rcases s.fg a with e | e
    · exact .inl e
    · right
      cases q : G' a with
      | none => rfl
      | some u => rw [h a u q] at e; cases e
  · cases q : G' a with
    | none => rfl
    | some u =>
      have := h a u q
      rw [s.pg a ha] at this
      cases this
theorem sub_upd {G : Hp} {a : Addr} {o : HO} (n : G a = none) : Sub G (upd G a o) := fun b u e => by rw [upd_ne (ne_of_none e n)]; exact e
theorem objOf_ok {d : D} {v : V} {c : Nat} {fs : List (Str × D)} (s : SR K ca p F G M H) (r : RD K p F d v) (e : objOf M c d = some fs) :
    ∃ i a dx vs, d = .ref i ∧ p[i]? = some a ∧ v = .ref a ∧ M[i]? = some (.obj c fs) ∧ H a = some (.ins (ca c) dx vs) ∧ Paired (fun (x : Str × D) (y : Str × V) => x.1 = y.1 ∧ RD K p F x.2 y.2) fs vs := by
  cases d with
  | ref i =>
    obtain ⟨a, h1, h2⟩ := r
    unfold objOf at e
    cases q : M[i]? with
    | none => simp only [q] at e; cases e
    | some o =>
      simp only [q] at e
      cases o with
      | obj k m =>
        by_cases hk : k = c
        · subst hk
          simp only [decide_true] at e
          have e2 : m = fs := Option.some.inj e
          subst e2
          obtain ⟨dx, vs, k1, k2⟩ := s.ob i a _ h1 q
          exact ⟨i, a, dx, vs, rfl, h1, h2, q, k1, k2⟩
        · simp only [decide_eq_false hk] at e; cases e
      | _ => simp only at e; cases e
  | _ => cases e
theorem look_fld : ∀ {fs : List (Str × D)} {vs : List (Str × V)} {f : Str}, Paired (fun (x : Str × D) (y : Str × V) => x.1 = y.1 ∧ RD K p F x.2 y.2) fs vs →
    (∀ d, fs.lookup f = some d → ∃ v, vs.lookup f = some v ∧ RD K p F d v) ∧ (fs.lookup f = none → vs.lookup f = none)
  | _, _, _, .nil => ⟨fun d h => (by cases h), fun _ => rfl⟩
  | _, _, f, .cons (a := x) (b := y) (l₁ := r) (l₂ := w) h t => by
    obtain ⟨h1, h2⟩ := look_fld (f := f) t
    obtain ⟨x1, x2⟩ := x
    obtain ⟨y1, y2⟩ := y
    have e1 : x1 = y1 := h.1
    subst e1
    cases q : (f == x1) with
    | true =>
      have a1 : ∀ {α : Type} (z : α) (l : List (Str × α)), List.lookup f ((x1, z) :: l) = some z := fun z l => by simp only [List.lookup, q]
      rw [a1, a1]
      exact ⟨fun d e => ⟨y2, rfl, by have := Option.some.inj e; subst this; exact h.2⟩, fun e => by cases e⟩
    | false =>
      have a1 : ∀ {α : Type} (z : α) (l : List (Str × α)), List.lookup f ((x1, z) :: l) = List.lookup f l := fun z l => by simp only [List.lookup, q]
      rw [a1, a1]
      exact ⟨h1, h2⟩
theorem put_fld {f : Str} {d : D} {v : V} (r : RD K p F d v) : ∀ {fs : List (Str × D)} {vs : List (Str × V)}, Paired (fun (x : Str × D) (y : Str × V) => x.1 = y.1 ∧ RD K p F x.2 y.2) fs vs →
    Paired (fun (x : Str × D) (y : Str × V) => x.1 = y.1 ∧ RD K p F x.2 y.2) (putD f d fs) (putF f v vs)
  | _, _, .nil => .cons ⟨rfl, r⟩ .nil
  | _, _, .cons (a := x) (b := y) (l₁ := l) (l₂ := w) h t => by
    obtain ⟨x1, x2⟩ := x
    obtain ⟨y1, y2⟩ := y
    have e1 : x1 = y1 := h.1
    subst e1
    unfold putD putF
    by_cases q : x1 = f
    · rw [if_pos q, if_pos q]; exact .cons ⟨rfl, r⟩ t
    · rw [if_neg q, if_neg q]; exact .cons h (put_fld r t)
theorem paired_len {α β : Type} {R : α → β → Prop} : ∀ {l : List α} {m : List β}, Paired R l m → l.length = m.length
  | _, _, .nil => rfl
  | _, _, .cons _ t => by rw [List.length_cons, List.length_cons, paired_len t]
end
section
variable {X : Cx} {ca : Nat → Addr}
def rSl (K : PySem.W.Frag) (ca : Nat → Addr) (mu : Bool) : V → Option Int → Option Int → Hp → VK → Prop := fun x lo hi H Q => ∃ p F G M d W, SR K ca p F G M H ∧ RD K p F d x ∧ Tk K ca (RD K) W G p F (slcV mu d lo hi M) Q
theorem sl_V (mu : Bool) : SlR X (rSl X.K ca mu) := by
  have key : ∀ {x lo hi H Q}, rSl X.K ca mu x lo hi H Q → rSlL X.K x lo hi H Q ∨ rSlT X.K x lo hi H Q := fun {x lo hi H Q} h => by
    obtain ⟨p, F, G, M, d, W, sr, rd, h⟩ := h
    unfold slcV at h
    cases q : lsOf M d with
    | some l =>
      simp only [q] at h
      obtain ⟨a, vs, e, k1, k2⟩ := lsOf_ok sr rd q
      exact .inl ⟨a, vs, e, SqL.of k1, fun b hb => mkL_ok sr k2.cut h hb⟩
    | none =>
      simp only [q] at h
      cases q2 : tpOf d with
      | some l =>
        simp only [q2] at h
        obtain ⟨a, vs, e, k1, k2⟩ := tpOf_ok sr rd q2
        obtain ⟨z1, z2⟩ := Tk.okIf h
        refine .inr ⟨a, vs, e, sqT_sub sr.fr k1, fun z => ?_, fun b hb => mkT_ok sr k2.cut z2 hb⟩
        rw [← k2.length] at z
        simp [z.1, z.2] at z1
      | none => simp only [q2] at h; exact h.elim
  intro pins s σ H x v vl vu lo hi sl Q I rx hs pl pu h
  exact (SlR.or sl_list sl_tup) pins s σ H x v vl vu lo hi sl Q I rx hs pl pu (key h)
def rC (K : PySem.W.Frag) (ca : Nat → Addr) (f : BiK) : List V → Hp → VK → Prop := fun xs H Q => ∃ p F G M ds W, SR K ca p F G M H ∧ RDs K p F ds xs ∧ Tk K ca (RD K) W G p F (biV f ds M) Q
theorem one_of {K : PySem.W.Frag} {p : List Addr} {F : Hp} {d : D} {xs : List V} (h : RDs K p F [d] xs) : ∃ v, xs = [v] ∧ RD K p F d v := by
  obtain ⟨v, w, e, h1, h2⟩ := h
  cases h2
  exact ⟨v, e, h1⟩
theorem two_of {K : PySem.W.Frag} {p : List Addr} {F : Hp} {d e : D} {xs : List V} (h : RDs K p F [d, e] xs) : ∃ v w, xs = [v, w] ∧ RD K p F d v ∧ RD K p F e w := by
  obtain ⟨v, w, e, h1, h2⟩ := h
  obtain ⟨w, rfl, h3⟩ := one_of h2
  exact ⟨v, w, e, h1, h3⟩
theorem c_len : CallR X (.builtin "len") (rC X.K ca .len) := by
  intro pins s σ H xs us Q I r h
  obtain ⟨p, F, G, M, ds, W, sr, rd, h⟩ := h
  unfold biV at h
  split at h <;> try exact h.elim
  all_goals try contradiction
  rename_i d heq
  cases q : sqOf M d with
  | none => simp only [q] at h; exact h.elim
  | some l =>
    simp only [q] at h
    obtain ⟨v, rfl, k1⟩ := one_of rd
    obtain ⟨a, vs, rfl, h1, h2⟩ := sqOf_ok sr k1 q
    refine call_len_seq pins s σ H _ us Q I r ⟨a, vs, rfl, h1, ?_⟩
    rw [← h2.length]
    exact h.ok sr rfl
theorem c_int : CallR X (.type "int") (rC X.K ca .int) := by
  intro pins s σ H xs us Q I r h
  obtain ⟨p, F, G, M, ds, W, sr, rd, h⟩ := h
  unfold biV at h
  split at h <;> try exact h.elim
  all_goals try contradiction
  · obtain ⟨v, rfl, k1⟩ := one_of rd
    have e : v = .int _ := k1
    subst e
    exact call_int1 pins s σ H _ us Q I r (.inl ⟨_, rfl, h.ok sr rfl⟩)
  · obtain ⟨v, rfl, k1⟩ := one_of rd
    have e : v = .bl _ := k1
    subst e
    exact call_int1 pins s σ H _ us Q I r (.inr ⟨_, rfl, h.ok sr rfl⟩)
theorem c_list (mu : Bool) : CallR X (.type "list") (rC X.K ca (.list mu)) := by
  intro pins s σ H xs us Q I r h
  obtain ⟨p, F, G, M, ds, W, sr, rd, h⟩ := h
  unfold biV at h
  split at h <;> try exact h.elim
  all_goals try contradiction
  rename_i mu' d heq
  cases heq
  obtain ⟨v, rfl, k1⟩ := one_of rd
  cases q : lsOf M d with
  | some l =>
    simp only [q] at h
    obtain ⟨a, vs, rfl, h1, h2⟩ := lsOf_ok sr k1 q
    exact call_list_of pins s σ H _ us Q I r ⟨a, vs, rfl, .inl (SqL.of h1), fun b hb => mkL_ok sr h2 h hb⟩
  | none =>
    simp only [q] at h
    cases q2 : tpOf d with
    | none => simp only [q2] at h; exact h.elim
    | some l =>
      simp only [q2] at h
      obtain ⟨a, vs, rfl, h1, h2⟩ := tpOf_ok sr k1 q2
      exact call_list_of pins s σ H _ us Q I r ⟨a, vs, rfl, .inr (sqT_sub sr.fr h1), fun b hb => mkL_ok sr h2 h hb⟩
theorem c_tuple : CallR X (.type "tuple") (rC X.K ca .tuple) := by
  intro pins s σ H xs us Q I r h
  obtain ⟨p, F, G, M, ds, W, sr, rd, h⟩ := h
  unfold biV at h
  split at h <;> try exact h.elim
  all_goals try contradiction
  rename_i d heq
  obtain ⟨v, rfl, k1⟩ := one_of rd
  cases q : lsOf M d with
  | some l =>
    simp only [q] at h
    obtain ⟨a, vs, rfl, h1, h2⟩ := lsOf_ok sr k1 q
    exact call_tuple_of pins s σ H _ us Q I r ⟨a, vs, rfl, .inl ⟨SqL.of h1, fun b hb => mkT_ok sr h2 h hb⟩⟩
  | none =>
    simp only [q] at h
    cases q2 : tpOf d with
    | none => simp only [q2] at h; exact h.elim
    | some l =>
      simp only [q2] at h
      obtain ⟨a, vs, rfl, h1, h2⟩ := tpOf_ok sr k1 q2
      exact call_tuple_of pins s σ H _ us Q I r ⟨a, vs, rfl, .inr ⟨sqT_sub sr.fr h1, h.ok sr k1⟩⟩
theorem c_min2 (hc : X.calm = true) : CallR X (.builtin "min") (rC X.K ca .min2) := by
  intro pins s σ H xs us Q I r h
  obtain ⟨p, F, G, M, ds, W, sr, rd, h⟩ := h
  unfold biV at h
  split at h <;> try exact h.elim
  all_goals try contradiction
  obtain ⟨v, w, rfl, k1, k2⟩ := two_of rd
  have e1 : v = .int _ := k1
  have e2 : w = .int _ := k2
  subst e1 e2
  exact call_min2 hc pins s σ H _ us Q I r ⟨_, _, rfl, h.ok sr rfl⟩
theorem c_max2 (hc : X.calm = true) : CallR X (.builtin "max") (rC X.K ca .max2) := by
  intro pins s σ H xs us Q I r h
  obtain ⟨p, F, G, M, ds, W, sr, rd, h⟩ := h
  unfold biV at h
  split at h <;> try exact h.elim
  all_goals try contradiction
  obtain ⟨v, w, rfl, k1, k2⟩ := two_of rd
  have e1 : v = .int _ := k1
  have e2 : w = .int _ := k2
  subst e1 e2
  exact call_max2 hc pins s σ H _ us Q I r ⟨_, _, rfl, h.ok sr rfl⟩
/-- a value's type -/
theorem tyD_ok {K : PySem.W.Frag} {p : List Addr} {F G H : Hp} {M : Ar} {d : D} {v : V} {t : Ty} (sr : SR K ca p F G M H) (rd : RD K p F d v) (e : tyD M d = some t) : TyX K H v (.type t.name) := by
  have tup : ∀ {a vs}, SqT K F a vs → TyX K H (.ref a) (.type "tuple") := fun {a vs} h => by
    rcases sqT_sub sr.fr h with (h | ⟨o, h⟩) | ⟨o, its, n, h1, h2, _⟩
    · exact .base (.tup h)
    · exact .fTuple h
    · exact .kTuple h1 h2
  cases d with
  | t x =>
    have e1 : tyT x = t := Option.some.inj e
    subst e1
    cases x with
    | non => cases rd; exact .base .non
    | bl b => cases rd; exact .base (.bl b)
    | int b => cases rd; exact .base (.int b)
    | str b => cases rd; exact .base (.str b)
    | tup l => obtain ⟨a, vs, h0, h1, _⟩ := rd; subst h0; exact tup h1
    | lst l => obtain ⟨a, vs, h0, h1, _⟩ := rd; subst h0; exact .base (.lst (sr.fr _ _ h1))
    | scr l =>
      obtain ⟨a, h0, h1⟩ := rd
      subst h0
      rcases sqL_sub sr.fr h1 with (h | ⟨o, h⟩) | ⟨o, its, n, h1, h2, _⟩
      · exact .base (.lst h)
      · exact .base (.frz h)
      · exact .kList h1 h2
  | tup l =>
    have e1 : Ty.tup = t := Option.some.inj e
    subst e1
    obtain ⟨a, vs, h0, h1, _⟩ := rd; subst h0; exact tup h1
  | lst l =>
    have e1 : Ty.lst = t := Option.some.inj e
    subst e1
    obtain ⟨a, vs, h0, h1, _⟩ := rd; subst h0; exact .base (.lst (sr.fr _ _ h1))
  | ref i =>
    obtain ⟨a, h1, h2⟩ := rd
    unfold tyD at e
    cases q : M[i]? with
    | none => simp only [q] at e; cases e
    | some o =>
      simp only [q] at e
      cases o with
      | lst m =>
        have e1 : Ty.lst = t := Option.some.inj e
        subst e1
        obtain ⟨vs, k1, k2⟩ := sr.ob i a _ h1 q
        subst h2
        exact .base (.lst k1)
      | _ => cases e
theorem kit_int (t : Ty) : kitB t.name "int" = some (isTy .isInt t) := by cases t <;> decide +kernel
theorem kit_bool (t : Ty) : kitB t.name "bool" = some (isTy .isBool t) := by cases t <;> decide +kernel
theorem kit_list (t : Ty) : kitB t.name "list" = some (isTy .isList t) := by cases t <;> decide +kernel
theorem kit_tuple (t : Ty) : kitB t.name "tuple" = some (match t with | .tup => true | _ => false) := by cases t <;> decide +kernel
theorem kit_seq {K : PySem.W.Frag} (t : Ty) : PySem.W.kitAny K (.type t.name) [.type "tuple", .type "list"] = some (isTy .isSeq t) := by
  refine kitAny_cons (kit_ty (kit_tuple t)) (fun h => kitAny_cons (kit_ty (kit_list t)) (r := isTy .isSeq t) (fun h2 => ?_) (fun h2 => ?_)) (fun h => ?_)
  · cases t <;> first | exact kitAny_nil | (cases h; done) | (cases h2; done)
  · cases t <;> first | rfl | cases h2
  · cases t <;> first | rfl | cases h
/-- list methods -/
def rM (K : PySem.W.Frag) (ca : Nat → Addr) (m : MeK) : V → List V → Hp → VK → Prop := fun x xs H Q => ∃ p F G M d ds W, SR K ca p F G M H ∧ RD K p F d x ∧ RDs K p F ds xs ∧ Tk K ca (RD K) W G p F (meV m d ds M) Q
theorem meV_ref {K : PySem.W.Frag} {p : List Addr} {F G : Hp} {M : Ar} {W : XK} {m : MeK} {d : D} {ds : List D} {Q : VK} (h : Tk K ca (RD K) W G p F (meV m d ds M) Q) : ∃ i l, d = .ref i ∧ M[i]? = some (.lst l) := by
  unfold meV at h
  split at h
  · split at h
    · exact ⟨_, _, rfl, by assumption⟩
    · exact h.elim
  · exact h.elim
theorem m_append : MtM X "list.append" (rM X.K ca .append) := by
  intro pins s σ H x xs v us Q I rx rxs h
  obtain ⟨p, F, G, M, d, ds, W, sr, rd, rds, h⟩ := h
  obtain ⟨i, l, rfl, q⟩ := meV_ref h
  obtain ⟨a, h1, rfl⟩ := rd
  obtain ⟨vs, k1, k2⟩ := sr.ob i a _ h1 q
  unfold meV at h
  simp only [q] at h
  split at h <;> try exact h.elim
  all_goals try contradiction
  rename_i d heq
  obtain ⟨w, rfl, r1⟩ := one_of rds
  obtain ⟨z1, z2⟩ := Tk.okIf h
  have z3 := of_decide_eq_true z1
  rw [k2.length, line_eq] at z3
  refine mt_append pins s σ H _ _ v us Q I rx rxs ⟨a, vs, w, rfl, rfl, k1, z3, ?_⟩
  exact z2 _ _ _ _ (Pre.refl _) (Sub.refl _) (sr.set (m := .lst (l ++ [d])) h1 ⟨vs ++ [w], upd_same, k2.app (RDs.one r1)⟩) rfl
theorem m_pop : MtM X "list.pop" (rM X.K ca .pop) := by
  intro pins s σ H x xs v us Q I rx rxs h
  obtain ⟨p, F, G, M, d, ds, W, sr, rd, rds, h⟩ := h
  obtain ⟨i, l, rfl, q⟩ := meV_ref h
  obtain ⟨a, h1, rfl⟩ := rd
  obtain ⟨vs, k1, k2⟩ := sr.ob i a _ h1 q
  unfold meV at h
  simp only [q] at h
  split at h <;> try exact h.elim
  all_goals try contradiction
  cases q2 : l[l.length - 1]? with
  | none => simp only [q2] at h; exact h.elim
  | some e =>
    simp only [q2] at h
    have rds' : xs = [] := rds
    subst rds'
    rw [k2.length] at q2
    obtain ⟨w, e1, e2⟩ := k2.get q2
    refine mt_pop pins s σ H _ _ v us Q I rx rxs ⟨a, vs, w, rfl, rfl, k1, e1, ?_⟩
    exact h _ _ _ _ (Pre.refl _) (Sub.refl _) (sr.set (m := .lst l.dropLast) h1 ⟨vs.dropLast, upd_same, k2.dropLast⟩) e2
theorem m_extend : MtM X "list.extend" (rM X.K ca .extend) := by
  intro pins s σ H x xs v us Q I rx rxs h
  obtain ⟨p, F, G, M, d, ds, W, sr, rd, rds, h⟩ := h
  obtain ⟨i, l, rfl, q⟩ := meV_ref h
  obtain ⟨a, h1, rfl⟩ := rd
  obtain ⟨vs, k1, k2⟩ := sr.ob i a _ h1 q
  unfold meV at h
  simp only [q] at h
  split at h <;> try exact h.elim
  all_goals try contradiction
  rename_i d heq
  obtain ⟨w, rfl, r1⟩ := one_of rds
  split at h
  · exact h.elim
  · cases q2 : lsOf M d with
    | none => simp only [q2] at h; exact h.elim
    | some m =>
      simp only [q2] at h
      obtain ⟨b, ws, rfl, k3, k4⟩ := lsOf_ok sr r1 q2
      obtain ⟨z1, z2⟩ := Tk.okIf h
      have z3 := of_decide_eq_true z1
      rw [k2.length, k4.length, line_eq] at z3
      refine mt_extend pins s σ H _ _ v us Q I rx rxs ⟨a, b, vs, ws, rfl, rfl, k1, k3, z3, ?_⟩
      exact z2 _ _ _ _ (Pre.refl _) (Sub.refl _) (sr.set (m := .lst (l ++ m)) h1 ⟨vs ++ ws, upd_same, k2.app k4⟩) rfl
def rS (K : PySem.W.Frag) (ca : Nat → Addr) : V → V → V → Hp → (Hp → Prop) → Prop := fun o i v H Q => ∃ p F G M d e x W, SR K ca p F G M H ∧ RD K p F d o ∧ RD K p F e i ∧ RD K p F x v ∧ Tk K ca (fun _ _ (_ : Unit) (_ : Unit) => True) W G p F (subV d e x M) (fun _ H => Q H)
theorem s_sub : PSet X (rS X.K ca) := by
  intro pins s σ H o i v ov iv u Q I ro ri rv h
  obtain ⟨p, F, G, M, d, e, x, W, sr, rd, re, rx, h⟩ := h
  unfold subV at h
  split at h <;> try exact h.elim
  rename_i a k
  cases q : M[a]? with
  | none => simp only [q] at h; exact h.elim
  | some m =>
    simp only [q] at h
    cases m with
    | lst l =>
      simp only at h
      obtain ⟨b, h1, rfl⟩ := rd
      obtain ⟨vs, k1, k2⟩ := sr.ob a b _ h1 q
      have ei : i = .int k := re
      subst ei
      cases q2 : ixN l.length k with
      | none => simp only [q2] at h; exact h.elim
      | some j =>
        simp only [q2] at h
        rw [k2.length] at q2
        refine set_list pins s σ H _ _ v ov iv u Q I ro ri rv ⟨b, vs, k, j, rfl, rfl, k1, q2, ?_⟩
        exact h _ _ _ () (Pre.refl _) (Sub.refl _) (sr.set (m := .lst (l.set j x)) h1 ⟨vs.set j v, upd_same, k2.set j rx⟩) trivial
    | _ => exact h.elim
end
end Rw
end

section
set_option Elab.async false
set_option linter.all false
set_option maxRecDepth 100000
/-! calls by the evaluator; the module's facts; the context -/
namespace Rw
open PySem PySem.Spec PyProof.Rows L2
/-- what a def promises: what the evaluator says of it -/
def spF (K : PySem.W.Frag) (ca : Nat → Addr) (C : Cal) (f n : Nat) : Sp := fun vs H Q E => vs.length = n ∧ ∃ p F G M ds, SR K ca p F G M H ∧ RDs K p F ds vs ∧ Tk K ca (RD K) E G p F (C f ds M) Q
theorem allT_mapD : ∀ {l : List D} {ts : List T}, allT l = some ts → ts.map D.t = l
  | [], ts, h => by unfold allT at h; cases h; rfl
  | .t x :: l, ts, h => by
    unfold allT at h
    cases q : allT l with
    | none => simp only [q] at h; cases h
    | some us =>
      simp only [q] at h
      cases h
      rw [List.map_cons, allT_mapD q]
  | .ref _ :: _, ts, h => by unfold allT at h; cases h
  | .tup _ :: _, ts, h => by unfold allT at h; cases h
  | .lst _ :: _, ts, h => by unfold allT at h; cases h
section
variable {K : PySem.W.Frag} {ca : Nat → Addr} {p : List Addr} {F G H H' : Hp} {M : Ar} {n : Nat}
theorem SR.nil (s : SR K ca p F G M H) : SR K ca [] F (ext G p H) [] H := by
  refine ⟨rfl, List.nodup_nil, s.fr, ext_in s.gr, fun a => ?_, fun a h => (nomatch h), fun a h => (nomatch h), fun i a o h => by simp at h⟩
  cases q : F a with
  | none => exact .inl rfl
  | some u =>
    right
    cases e : ext G p H a with
    | none => rfl
    | some o =>
      rcases ext_cases e with z | ⟨_, z, _⟩
      · rcases s.fg a with h | h
        · rw [h] at q; cases q
        · rw [h] at z; cases z
      · rw [s.pf a z] at q; cases q
/-- back from a clean call: what it made stays as it is from now on -/
theorem SR.back {p1 : List Addr} {F1 H1 : Hp} {M1 : Ar} (s : SR K ca p F G M H) (s1 : SR K ca p1 F1 (ext G p H) M1 H1) (h : Sub F F1) :
    Sub F (ext F1 p1 H1) ∧ SR K ca p (ext F1 p1 H1) G M H1 := by
  have stay : ∀ a ∈ p, ∀ o, H a = some o → ext G p H a = some o := fun a ha o e => by rw [ext_at (s.pg a ha) ha]; exact e
  have sub : Sub F (ext F1 p1 H1) := h.trans ext_sub
  have out : ∀ a ∈ p, ext F1 p1 H1 a = none := fun a ha => by
    obtain ⟨i, hi, e⟩ := List.mem_iff_getElem.mp ha
    have hM : i < M.length := by rw [← s.len]; exact hi
    obtain ⟨u, hu⟩ := (s.ob i a _ (by rw [List.getElem?_eq_getElem hi, e]) (List.getElem?_eq_getElem hM)).there
    have hx := stay a ha u hu
    have n1 : F1 a = none := by
      rcases s1.fg a with z | z
      · exact z
      · rw [z] at hx; cases hx
    exact ext_none n1 fun z => by have := s1.pg a z; rw [this] at hx; cases hx
  refine ⟨sub, s.len, s.nd, ext_in s1.fr, fun a o e => s1.gr a o (ext_sub a o e), fun a => ?_, out, s.pg, fun i a o e1 e2 => ?_⟩
  · cases q : G a with
    | none => exact .inr rfl
    | some u =>
      left
      have hx : ext G p H a = some u := ext_sub a u q
      have n1 : F1 a = none := by
        rcases s1.fg a with z | z
        · exact z
        · rw [z] at hx; cases hx
      exact ext_none n1 fun z => by have := s1.pg a z; rw [this] at hx; cases hx
  · have r := s.ob i a o e1 e2
    have ha : a ∈ p := List.mem_of_getElem? e1
    obtain ⟨u, hu⟩ := r.there
    exact r.sub (Pre.refl _) sub (by rw [hu]; exact s1.gr a u (stay a ha u hu))
/-- the arena seen as frozen, for a call that looks alone -/
theorem SR.peek (s : SR K ca p F G M H) : SR K ca [] (ext F p H) G [] H := by
  refine ⟨rfl, List.nodup_nil, ext_in s.fr, s.gr, fun a => ?_, fun a h => (nomatch h), fun a h => (nomatch h), fun i a o h => by simp at h⟩
  cases q : G a with
  | none => exact .inr rfl
  | some u =>
    left
    have n1 : F a = none := by
      rcases s.fg a with z | z
      · exact z
      · rw [z] at q; cases q
    exact ext_none n1 fun z => by have := s.pg a z; rw [this] at q; cases q
theorem SR.unpeek {p1 : List Addr} {F1 H1 : Hp} {M1 : Ar} (s : SR K ca p F G M H) (s1 : SR K ca p1 F1 G M1 H1) (h : Sub (ext F p H) F1) : SR K ca p F G M H1 := by
  refine ⟨s.len, s.nd, fun a o e => s1.fr a o (h a o (ext_sub a o e)), s1.gr, s.fg, s.pf, s.pg, fun i a o e1 e2 => ?_⟩
  have r := s.ob i a o e1 e2
  have ha : a ∈ p := List.mem_of_getElem? e1
  obtain ⟨u, hu⟩ := r.there
  exact r.sub (Pre.refl _) (Sub.refl _) (by rw [hu]; exact s1.fr a u (h a u (by rw [ext_at (s.pf a ha) ha]; exact hu)))
theorem mapO_len {α β : Type} {f : α → Option β} : ∀ {l : List α} {m : List β}, mapO f l = some m → m.length = l.length
  | [], m, e => by
    have : m = [] := (Option.some.inj (show (some [] : Option (List β)) = some m from e)).symm
    subst this; rfl
  | a :: r, m, e => by
    obtain ⟨b, l, _, h2, rfl⟩ := mapO_cons e
    rw [List.length_cons, List.length_cons, mapO_len h2]
theorem SR.there (s : SR K ca p F G M H) {a : Addr} (ha : a ∈ p) : ∃ o, H a = some o := by
  obtain ⟨i, hi, e⟩ := List.mem_iff_getElem.mp ha
  have hM : i < M.length := by rw [← s.len]; exact hi
  exact (s.ob i a _ (by rw [List.getElem?_eq_getElem hi, e]) (List.getElem?_eq_getElem hM)).there
theorem SR.outF {p1 : List Addr} {F1 H1 : Hp} {M1 : Ar} {q : List Addr} (s1 : SR K ca p1 F1 (ext G q H) M1 H1) {a : Addr} {o : HO} (hx : ext G q H a = some o) : F1 a = none ∧ a ∉ p1 := by
  refine ⟨?_, fun z => by have := s1.pg a z; rw [this] at hx; cases hx⟩
  rcases s1.fg a with z | z
  · exact z
  · rw [z] at hx; cases hx
/-! further on -/
mutual
theorem RD.sh {q : List Addr} (hq : ∀ (i : Nat) a, p[i]? = some a → q[n + i]? = some a) : ∀ (d : D) (v : V), RD K p F d v → RD K q F (shD n d) v
  | .t x, v, h => h
  | .ref i, v, h => by
    obtain ⟨a, h1, h2⟩ := h
    exact ⟨a, hq i a h1, h2⟩
  | .tup l, v, h => by
    obtain ⟨a, vs, h1, h2, h3⟩ := h
    exact ⟨a, vs, h1, h2, RDs.sh hq l vs h3⟩
  | .lst l, v, h => by
    obtain ⟨a, vs, h1, h2, h3⟩ := h
    exact ⟨a, vs, h1, h2, RDs.sh hq l vs h3⟩
theorem RDs.sh {q : List Addr} (hq : ∀ (i : Nat) a, p[i]? = some a → q[n + i]? = some a) : ∀ (l : List D) (vs : List V), RDs K p F l vs → RDs K q F (shDs n l) vs
  | [], vs, h => h
  | d :: l, vs, h => by
    obtain ⟨v, w, e, h1, h2⟩ := h
    exact ⟨v, w, e, RD.sh hq d v h1, RDs.sh hq l w h2⟩
end
theorem Pr.sh {α : Type} {q : List Addr} (hq : ∀ (i : Nat) a, p[i]? = some a → q[n + i]? = some a) : ∀ {l : List (α × D)} {m : List (α × V)}, Paired (fun (x : α × D) (y : α × V) => x.1 = y.1 ∧ RD K p F x.2 y.2) l m → Paired (fun (x : α × D) (y : α × V) => x.1 = y.1 ∧ RD K q F x.2 y.2) (shP n l) m
  | [], _, .nil => .nil
  | (a, d) :: l, _, .cons h t => .cons ⟨h.1, RD.sh hq d _ h.2⟩ (Pr.sh hq t)
theorem RO.sh {q : List Addr} (hq : ∀ (i : Nat) a, p[i]? = some a → q[n + i]? = some a) {o : MO} {a : Addr} (h : RO K ca p F H o a) : RO K ca q F H (shO n o) a := by
  cases o with
  | lst l => obtain ⟨vs, h1, h2⟩ := h; exact ⟨vs, h1, RDs.sh hq l vs h2⟩
  | dK l => obtain ⟨vs, h1, h2⟩ := h; exact ⟨vs, h1, Pr.sh hq h2⟩
  | dT l => obtain ⟨vs, h1, h2⟩ := h; exact ⟨vs, h1, Pr.sh hq h2⟩
  | obj c l => obtain ⟨dx, fs, h1, h2⟩ := h; exact ⟨dx, fs, h1, Pr.sh hq h2⟩
  | gone => exact h
theorem SR.join {p1 : List Addr} {F1 H1 : Hp} {M1 : Ar} (s : SR K ca p F G M H) (s1 : SR K ca p1 F1 (ext G p H) M1 H1) (h : Sub F F1) :
    SR K ca (p ++ p1) F1 G (M ++ M1.map (shO M.length)) H1 ∧ ∀ (i : Nat) a, p1[i]? = some a → (p ++ p1)[M.length + i]? = some a := by
  have inG : ∀ a ∈ p, ∃ o, H a = some o ∧ ext G p H a = some o := fun a ha => by
    obtain ⟨o, e⟩ := s.there ha
    exact ⟨o, e, by rw [ext_at (s.pg a ha) ha]; exact e⟩
  have noG : ∀ a, ext G p H a = none → G a = none := fun a e => by
    cases q : G a with
    | none => rfl
    | some o => rw [ext_sub a o q] at e; cases e
  have hq : ∀ (i : Nat) a, p1[i]? = some a → (p ++ p1)[M.length + i]? = some a := fun i a e => by
    rw [← s.len, List.getElem?_append_right (by omega), Nat.add_sub_cancel_left]; exact e
  refine ⟨⟨?_, ?_, s1.fr, fun a o e => s1.gr a o (ext_sub a o e), fun a => ?_, fun a ha => ?_, fun a ha => ?_, fun i a o e1 e2 => ?_⟩, hq⟩
  · rw [List.length_append, List.length_append, List.length_map, s.len, s1.len]
  · refine List.nodup_append.mpr ⟨s.nd, s1.nd, fun a ha b hb e => ?_⟩
    subst e
    obtain ⟨o, _, e⟩ := inG a ha
    exact (s1.outF e).2 hb
  · rcases s1.fg a with z | z
    · exact .inl z
    · exact .inr (noG a z)
  · rcases List.mem_append.mp ha with ha | ha
    · obtain ⟨o, _, e⟩ := inG a ha
      exact (s1.outF e).1
    · exact s1.pf a ha
  · rcases List.mem_append.mp ha with ha | ha
    · exact s.pg a ha
    · exact noG a (s1.pg a ha)
  · by_cases hi : i < M.length
    · rw [List.getElem?_append_left (by rw [s.len]; exact hi)] at e1
      rw [List.getElem?_append_left hi] at e2
      have ha : a ∈ p := List.mem_of_getElem? e1
      obtain ⟨u, k1, k2⟩ := inG a ha
      refine (s.ob i a o e1 e2).sub (fun j b e => ?_) h (by rw [k1]; exact s1.gr a u k2)
      rw [List.getElem?_append_left (List.getElem?_eq_some_iff.mp e).1]; exact e
    · have hl : M.length ≤ i := by omega
      rw [List.getElem?_append_right (by rw [s.len]; exact hl), s.len] at e1
      rw [List.getElem?_append_right hl, List.getElem?_map] at e2
      cases qo : M1[i - M.length]? with
      | none => rw [qo] at e2; cases e2
      | some o1 =>
        rw [qo] at e2
        cases e2
        exact RO.sh hq (s1.ob _ a o1 e1 qo)
/-! one list alone -/
theorem snap_rtE (F' : Hp) (sub : Sub F F') (ob : ∀ (i : Nat) b l, p[i]? = some b → M[i]? = some (.lst l) → ∃ vs, F' b = some (.lst vs) ∧ RDs K p F l vs) : ∀ (n : Nat) (d : D) (t : T) (v : V), RD K p F d v → snap M n d = some t → RT K F' t v
  | n, .t x, t, v, h, e => by
    have e1 : x = t := by cases n <;> exact Option.some.inj e
    subst e1
    exact RT.sub sub x v h
  | 0, .ref _, _, _, _, e => by cases e
  | 0, .tup _, _, _, _, e => by cases e
  | 0, .lst _, _, _, _, e => by cases e
  | n + 1, .ref i, t, v, h, e => by
    obtain ⟨a, h1, h2⟩ := h
    have e1 : (match M[i]? with | some (.lst l) => (mapO (snap M n) l).map T.lst | _ => none) = some t := e
    cases q : M[i]? with
    | none => rw [q] at e1; cases e1
    | some o =>
      rw [q] at e1
      cases o with
      | lst m =>
        obtain ⟨vs, k1, k2⟩ := ob i a _ h1 q
        dsimp only at e1
        cases q2 : mapO (snap M n) m with
        | none => rw [q2] at e1; cases e1
        | some ts =>
          rw [q2] at e1
          have e2 : T.lst ts = t := Option.some.inj e1
          subst e2
          exact ⟨a, vs, h2, k1, mapO_ok (snap_rtE F' sub ob n) m ts vs k2 q2⟩
      | _ => cases e1
  | n + 1, .tup m, t, v, h, e => by
    obtain ⟨a, vs, h1, h2, h3⟩ := h
    have e1 : (mapO (snap M n) m).map T.tup = some t := e
    cases q2 : mapO (snap M n) m with
    | none => rw [q2] at e1; cases e1
    | some ts =>
      rw [q2] at e1
      have e2 : T.tup ts = t := Option.some.inj e1
      subst e2
      exact ⟨a, vs, h1, sqT_sub sub h2, mapO_ok (snap_rtE F' sub ob n) m ts vs h3 q2⟩
  | n + 1, .lst m, t, v, h, e => by
    obtain ⟨a, vs, h1, h2, h3⟩ := h
    have e1 : (mapO (snap M n) m).map T.lst = some t := e
    cases q2 : mapO (snap M n) m with
    | none => rw [q2] at e1; cases e1
    | some ts =>
      rw [q2] at e1
      have e2 : T.lst ts = t := Option.some.inj e1
      subst e2
      exact ⟨a, vs, h1, sub _ _ h2, mapO_ok (snap_rtE F' sub ob n) m ts vs h3 q2⟩
def others (p : List Addr) (a : Addr) : List Addr := p.filter fun b => decide (b ≠ a)
theorem others_mem {a b : Addr} : b ∈ others p a ↔ b ∈ p ∧ b ≠ a := by unfold others; rw [List.mem_filter, decide_eq_true_eq]
theorem SR.one (s : SR K ca p F G M H) {i : Nat} {a : Addr} {l : List D} {ls : List T} (hi : p[i]? = some a) (hM : M[i]? = some (.lst l)) (hl : allT l = some ls) : SR K ca [a] F (ext G (others p a) H) [.lst l] H := by
  have ha : a ∈ p := List.mem_of_getElem? hi
  have nG : ext G (others p a) H a = none := ext_none (s.pg a ha) fun z => (others_mem.mp z).2 rfl
  refine ⟨rfl, by simp, s.fr, ext_in s.gr, fun b => ?_, fun b h => ?_, fun b h => ?_, fun j b o e1 e2 => ?_⟩
  · cases q : F b with
    | none => exact .inl rfl
    | some u =>
      right
      cases e : ext G (others p a) H b with
      | none => rfl
      | some o =>
        rcases ext_cases e with z | ⟨_, z, _⟩
        · rcases s.fg b with h | h
          · rw [h] at q; cases q
          · rw [h] at z; cases z
        · rw [s.pf b (others_mem.mp z).1] at q; cases q
  · rw [List.mem_singleton.mp h]; exact s.pf a ha
  · rw [List.mem_singleton.mp h]; exact nG
  · cases j with
    | zero =>
      cases e1
      cases e2
      obtain ⟨vs, k1, k2⟩ := s.ob i a _ hi hM
      refine ⟨vs, k1, ?_⟩
      have z := RTs.toD (p := [a]) (k2.allT hl)
      rw [allT_mapD hl] at z
      exact z
    | succ j => simp at e1
theorem SR.oneBack {p1 : List Addr} {F1 H1 : Hp} {r : Ar} {i : Nat} {a : Addr} {l : List D} {ls : List T} (s : SR K ca p F G M H) (hi : p[i]? = some a) (hp : Pre [a] p1) (s1 : SR K ca p1 F1 (ext G (others p a) H) (.lst l :: r) H1) (h : Sub F F1) (hl : allT l = some ls) :
    Sub F (ext F1 (others p1 a) H1) ∧ SR K ca p (ext F1 (others p1 a) H1) G (M.set i (.lst l)) H1 ∧ ∀ (d : D) (t : T) (v : V), RD K p1 F1 d v → snap (.gone :: r) deep d = some t → RT K (ext F1 (others p1 a) H1) t v := by
  have ha : a ∈ p := List.mem_of_getElem? hi
  have h0 : p1[0]? = some a := hp 0 a rfl
  have ha1 : a ∈ p1 := List.mem_of_getElem? h0
  have sub : Sub F (ext F1 (others p1 a) H1) := h.trans ext_sub
  have stay : ∀ b ∈ p, b ≠ a → ∃ o, H b = some o ∧ ext G (others p a) H b = some o := fun b hb hn => by
    obtain ⟨o, e⟩ := s.there hb
    exact ⟨o, e, by rw [ext_at (s.pg b hb) (others_mem.mpr ⟨hb, hn⟩)]; exact e⟩
  have nA : ext F1 (others p1 a) H1 a = none := ext_none (s1.pf a ha1) fun z => (others_mem.mp z).2 rfl
  refine ⟨sub, ⟨by rw [List.length_set]; exact s.len, s.nd, ext_in s1.fr, fun b o e => s1.gr b o (ext_sub b o e), fun b => ?_, fun b hb => ?_, s.pg, fun j b o e1 e2 => ?_⟩, fun d t v rd q => ?_⟩
  · cases q : G b with
    | none => exact .inr rfl
    | some u =>
      left
      obtain ⟨n1, n2⟩ := s1.outF (ext_sub b u q)
      exact ext_none n1 fun z => n2 (others_mem.mp z).1
  · by_cases hn : b = a
    · rw [hn]; exact nA
    · obtain ⟨o, _, e⟩ := stay b hb hn
      obtain ⟨n1, n2⟩ := s1.outF e
      exact ext_none n1 fun z => n2 (others_mem.mp z).1
  · by_cases hj : j = i
    · subst hj
      rw [hi] at e1
      cases e1
      have hlt : j < M.length := by rw [← s.len]; exact (List.getElem?_eq_some_iff.mp hi).1
      rw [List.getElem?_set_self hlt] at e2
      cases e2
      obtain ⟨vs, k1, k2⟩ := s1.ob 0 a _ h0 rfl
      refine ⟨vs, k1, ?_⟩
      have z := RTs.toD (p := p) (RTs.sub (ext_sub (p := others p1 a) (H := H1)) _ _ (k2.allT hl))
      rw [allT_mapD hl] at z
      exact z
    · rw [List.getElem?_set_ne (Ne.symm hj)] at e2
      have hb : b ∈ p := List.mem_of_getElem? e1
      have hn : b ≠ a := fun z => by
        subst z
        have l1 := (List.getElem?_eq_some_iff.mp e1)
        have l2 := (List.getElem?_eq_some_iff.mp hi)
        exact hj ((List.getElem_inj s.nd).mp (l1.2.trans l2.2.symm))
      obtain ⟨u, k1, k2⟩ := stay b hb hn
      exact (s.ob j b o e1 e2).sub (Pre.refl _) sub (by rw [k1]; exact s1.gr b u k2)
  · refine snap_rtE (M := .gone :: r) _ ext_sub (fun j b m e1 e2 => ?_) deep d t v rd q
    cases j with
    | zero => cases e2
    | succ j =>
      have e3 : (MO.lst l :: r)[j + 1]? = some (.lst m) := e2
      obtain ⟨vs, k1, k2⟩ := s1.ob (j + 1) b _ e1 e3
      have hb : b ∈ p1 := List.mem_of_getElem? e1
      have hn : b ≠ a := fun z => by
        subst z
        have l1 := (List.getElem?_eq_some_iff.mp e1)
        have l2 := (List.getElem?_eq_some_iff.mp h0)
        have := (List.getElem_inj s1.nd).mp (l1.2.trans l2.2.symm)
        omega
      exact ⟨vs, by rw [ext_at (s1.pf b hb) (others_mem.mpr ⟨hb, hn⟩)]; exact k1, k2⟩
/-- a call, in each of its modes -/
theorem callV_ok {C : Cal} {m : Md} {f : Nat} {ds : List D} {vs : List V} {W : XK} {Q : VK} {n : Nat} (hn : vs.length = n) (s : SR K ca p F G M H) (r : RDs K p F ds vs) (h : Tk K ca (RD K) W G p F (callV C m f ds M) Q) : spF K ca C f n vs H Q W := by
  refine ⟨hn, ?_⟩
  cases m with
  | plain => exact ⟨p, F, G, M, ds, s, r, h⟩
  | clean =>
    unfold callV at h
    cases q : allT ds with
    | none => simp only [q] at h; exact h.elim
    | some ts =>
      simp only [q] at h
      refine ⟨[], F, ext G p H, [], ts.map .t, s.nil, RTs.toD (r.allT q), ?_⟩
      cases e : C f (ts.map .t) [] with
      | stuck => simp only [e] at h; exact h.elim
      | exc c fs M1 =>
        simp only [e] at h
        intro p1 F1 H1 cls d _ h2 s1 x
        obtain ⟨b1, b2⟩ := s.back s1 h2
        refine h p (ext F1 p1 H1) H1 cls d (Pre.refl _) b1 b2 ?_
        obtain ⟨x1, x2⟩ := x
        refine ⟨x1, ?_⟩
        cases fs with
        | nil => exact x2
        | cons z zs =>
          obtain ⟨a, vs', y1, y2, y3⟩ := x2
          exact ⟨a, vs', y1, y2, Paired.mapP y3 fun u v w => ⟨w.1, RT.sub ext_sub _ _ w.2⟩⟩
      | ok d M1 =>
        simp only [e] at h
        cases q2 : snap M1 deep d with
        | none => simp only [q2] at h; exact h.elim
        | some t =>
          simp only [q2] at h
          intro p1 F1 H1 v _ h2 s1 x
          obtain ⟨b1, b2⟩ := s.back s1 h2
          exact h p (ext F1 p1 H1) H1 v (Pre.refl _) b1 b2 (snap_rt s1 deep d t v x q2)
  | peek =>
    unfold callV at h
    cases q : mapO (snap M deep) ds with
    | none => simp only [q] at h; exact h.elim
    | some ts =>
      simp only [q] at h
      refine ⟨[], ext F p H, G, [], ts.map .t, s.peek, RTs.toD (mapO_ok (snap_rt s deep) ds ts vs r q), ?_⟩
      cases e : C f (ts.map .t) [] with
      | stuck => simp only [e] at h; exact h.elim
      | exc c fs M1 => simp only [e] at h; exact h.elim
      | ok d M1 =>
        simp only [e] at h
        cases q2 : scV d with
        | none => simp only [q2] at h; exact h.elim
        | some u =>
          simp only [q2] at h
          intro p1 F1 H1 v _ h2 s1 x
          have s2 := s.unpeek s1 h2
          refine h p F H1 v (Pre.refl _) (Sub.refl _) s2 ?_
          cases d with
          | t y =>
            cases y with
            | non => exact x
            | bl b => exact x
            | int b => exact x
            | str b => exact x
            | _ => cases q2
          | _ => cases q2
  | fresh =>
    unfold callV at h
    cases q : allT ds with
    | none => simp only [q] at h; exact h.elim
    | some ts =>
      simp only [q] at h
      refine ⟨[], F, ext G p H, [], ts.map .t, s.nil, RTs.toD (r.allT q), ?_⟩
      cases e : C f (ts.map .t) [] with
      | stuck => simp only [e] at h; exact h.elim
      | exc c fs M1 =>
        simp only [e] at h
        intro p1 F1 H1 cls d _ h2 s1 x
        obtain ⟨b1, b2⟩ := s.back s1 h2
        refine h p (ext F1 p1 H1) H1 cls d (Pre.refl _) b1 b2 ?_
        obtain ⟨x1, x2⟩ := x
        refine ⟨x1, ?_⟩
        cases fs with
        | nil => exact x2
        | cons z zs =>
          obtain ⟨a, vs', y1, y2, y3⟩ := x2
          exact ⟨a, vs', y1, y2, Paired.mapP y3 fun u v w => ⟨w.1, RT.sub ext_sub _ _ w.2⟩⟩
      | ok d M1 =>
        simp only [e] at h
        intro p1 F1 H1 v _ h2 s1 x
        obtain ⟨j1, j2⟩ := s.join s1 h2
        exact h (p ++ p1) F1 H1 v (fun j b e => by rw [List.getElem?_append_left (List.getElem?_eq_some_iff.mp e).1]; exact e) h2 j1 (RD.sh j2 d v x)
  | focus =>
    unfold callV at h
    cases ds with
    | nil => exact h.elim
    | cons d0 ds' =>
      cases d0 with
      | ref i =>
        simp only at h
        cases q0 : M[i]? with
        | none => simp only [q0] at h; exact h.elim
        | some ob =>
          cases ob with
          | lst l =>
            cases q1 : allT ds' with
            | none => simp only [q0, q1] at h; exact h.elim
            | some ts =>
              simp only [q0, q1] at h
              cases q2 : allT l with
              | none => simp only [q2] at h; exact h.elim
              | some ls =>
                simp only [q2] at h
                obtain ⟨v0, vs0, rfl, ⟨a, hi, rfl⟩, r2⟩ := r
                have s0 := s.one hi q0 q2
                refine ⟨[a], F, ext G (others p a) H, [.lst l], .ref 0 :: ts.map .t, s0, ⟨.ref a, vs0, rfl, ⟨a, rfl, rfl⟩, RTs.toD (r2.allT q1)⟩, ?_⟩
                cases e : C f (.ref 0 :: ts.map .t) [.lst l] with
                | stuck => simp only [e] at h; exact h.elim
                | exc c fs M1 => simp only [e] at h; exact h.elim
                | ok d M1 =>
                  simp only [e] at h
                  unfold foc at h
                  cases M1 with
                  | nil => exact h.elim
                  | cons o1 r1 =>
                    cases o1 with
                    | lst l1 =>
                      simp only at h
                      cases q3 : allT l1 with
                      | none => simp only [q3] at h; exact h.elim
                      | some ls1 =>
                        cases q4 : snap (.gone :: r1) deep d with
                        | none => simp only [q3, q4] at h; exact h.elim
                        | some t =>
                          simp only [q3, q4] at h
                          intro p1 F1 H1 v hp1 h2 s1 x
                          obtain ⟨b1, b2, b3⟩ := s.oneBack hi hp1 s1 h2 q3
                          exact h p _ H1 v (Pre.refl _) b1 b2 (b3 d t v x q4)
                    | _ => exact h.elim
          | _ => simp only [q0] at h; exact h.elim
      | _ => exact h.elim
end
/-- a table of the module: text keys, values that never change -/
def TabOk (K : PySem.W.Frag) (w : World) (mg : Str → Option Value) (x : Str) (l : List (Str × T)) : Prop :=
  ∃ a es n, mg x = some (.ref a) ∧ KDict K w a es n ∧ Paired (fun (e : DictEntry) (q : Str × T) => (∃ t, e.key = .str q.1 t) ∧ ∃ v, RelV v e.val ∧ ∀ F, RT K F q.2 v) es.toList l
structure Facts (P : Pg) (fns : Nat → Option Fn) (w : World) (K : PySem.W.Frag) (mg : Str → Option Value) (ca fa : Nat → Addr) (fdt : Nat → FuncData) : Prop where
  free : ∀ x, x ∈ (["len", "int", "list", "tuple", "isinstance", "bool", "min", "max", "range", "enumerate"] : List Str) → mg x = none
  cst : ∀ (n : Nat) x t, P.consts[n]? = some (x, t) → ∃ u v, mg x = some u ∧ RelV v u ∧ ∀ F, RT K F t v
  tab : ∀ (n : Nat) x l, P.tabs[n]? = some (x, l) → TabOk K w mg x l
  gnm : ∀ f x, (f, x) ∈ P.gname → mg x = some (.ref (fa f)) ∧ PySem.W.keepIn K (.ref (fa f)) = true
  cls : ∀ c f, (c, f) ∈ P.flds → Cls K (ca c) ∧ NoAttr K (ca c) f
  mth : ∀ c m f, (c, m, f) ∈ P.meths → Cls K (ca c) ∧ Meth K (ca c) m (fa f)
  mak : ∀ c x f, (c, x, f) ∈ P.makes → mg x = some (.ref (ca c)) ∧ Mk K (ca c) (fa f)
  bnd : ∀ f fn, fns f = some fn → Binds K (fdt f) (fn.names.take fn.np) []
  npl : ∀ f fn, fns f = some fn → (fn.names.take fn.np).length = fn.np
/-- where a piece of code stands -/
structure Good (P : Pg) (fns : Nat → Option Fn) (ca fa : Nat → Addr) (fdt : Nat → FuncData) (C : Cal) (k : Nat) (X : Cx) (N : List Str) (sc : Scope) (W : XK) : Prop where
  hN : X.N = N
  nd : N.Nodup
  hsc : X.env.scope = sc
  calm : X.calm = true
  room : Room (k + 1) X.A
  fx : Facts P fns X.w X.K X.mg ca fa fdt
  fns : ∀ f fn, fns f = some fn → FnOk X.prog X.w X.K X.mg X.base (L2.CX X.prog X.w) k (fa f) (fdt f) (fn.names.take fn.np) (spF X.K ca C f fn.np)
  tk : Takes X (fun c d _ H => W c d H)
theorem PE.imp {X : Cx} {e : Expr} {t t' : TE} (h : PE X e t) (k : ∀ σ H Q, t' σ H Q → t σ H Q) : PE X e t' := ⟨fun pins s σ H Q I q => h.run pins s σ H Q I (k σ H Q q)⟩
theorem PA.imp {X : Cx} {e : List Expr} {t t' : TA} (h : PA X e t) (k : ∀ σ H Q, t' σ H Q → t σ H Q) : PA X e t' := ⟨fun pos pins s σ H Q I q => h.run pos pins s σ H Q I (k σ H Q q)⟩
theorem PT.imp {X : Cx} {e : Expr} {t t' : TT} (h : PT X e t) (k : ∀ σ H Q, t' σ H Q → t σ H Q) : PT X e t' := ⟨fun pins s σ H Q I q => h.run pins s σ H Q I (k σ H Q q)⟩
theorem PW.imp {X : Cx} {e : Expr} {t t' : TT} (h : PW X e t) (k : ∀ σ H Q, t' σ H Q → t σ H Q) : PW X e t' := ⟨fun wh pins s σ H Q I q => h.run wh pins s σ H Q I (k σ H Q q)⟩
theorem Res.bind_assoc {α β γ : Type} (r : Res α) (f : α → Ar → Res β) (g : β → Ar → Res γ) : (r.bind f).bind g = r.bind fun a M => (f a M).bind g := by
  cases r <;> rfl
end Rw
end

section
set_option Elab.async false
set_option linter.all false
set_option maxRecDepth 100000
/-! expressions: the checker and its soundness (without comprehensions) -/
namespace Rw
open PySem PySem.Spec PyProof.Rows L2
def visB (sc : Scope) (x : Str) : Bool := match sc.names.lookup x with
  | some .local => true
  | some .cell => true
  | some .free => true
  | _ => false
theorem visB_ok {sc : Scope} {x : Str} (h : visB sc x = true) : Vis sc x := by
  unfold visB at h
  unfold Vis
  split at h
  · exact .inl (by assumption)
  · exact .inr (.inl (by assumption))
  · exact .inr (.inr (by assumption))
  · cases h
def glB (sc : Scope) (x : Str) : Bool := (match sc.names.lookup x with
  | some .globalImplicit => true
  | _ => false) && !(x == ("__debug__" : Str)) && !(x == ("__name__" : Str))
theorem glB_ok {sc : Scope} {x : Str} (h : glB sc x = true) : sc.names.lookup x = some .globalImplicit ∧ (x == ("__debug__" : Str)) = false ∧ x ≠ "__name__" := by
  unfold glB at h
  simp only [Bool.and_eq_true, Bool.not_eq_true'] at h
  obtain ⟨⟨h1, h2⟩, h3⟩ := h
  refine ⟨?_, h2, by simpa using h3⟩
  split at h1
  · assumption
  · cases h1
def conB : T → Const → Bool
  | .non, .none => true
  | .bl b, .bool c => b == c
  | .int i, .int j => decide (i = j)
  | .str x, .str y => decide (x = y)
  | _, _ => false
def binB : BinK → Operator → Bool
  | .add, .Add => true
  | .sub, .Sub => true
  | .mul, .Mult => true
  | .fdiv, .FloorDiv => true
  | .mod, .Mod => true
  | .pow, .Pow => true
  | _, _ => false
theorem binB_ok {o : BinK} {p : Operator} (h : binB o p = true) : p = binO o := by
  cases o <;> cases p <;> first | rfl | cases h
def cmpB : CmpK → CmpOp → Bool
  | .eq, .Eq => true
  | .ne, .NotEq => true
  | .lt, .Lt => true
  | .le, .LtE => true
  | .gt, .Gt => true
  | .ge, .GtE => true
  | .isIn, .In => true
  | .notIn, .NotIn => true
  | _, _ => false
theorem cmpB_ok {o : CmpK} {p : CmpOp} (h : cmpB o p = true) : p = cmpO o := by
  cases o <;> cases p <;> first | rfl | cases h
def noStar : Expr → Bool
  | .Starred .. => false
  | _ => true
theorem noStar_ok {e : Expr} (h : noStar e = true) (es : List Expr) (env : Env) : starEach (e :: es) env = (false, eval e env) :: starEach es env := by
  cases e <;> first | rfl | cases h
def noSlice : Expr → Bool
  | .Slice .. => false
  | _ => true
theorem noSlice_ok {e : Expr} (h : noSlice e = true) : ∀ o i, subscripted e false o i = operate [o, i] (getItem o i) := by
  intro o i
  cases e <;> first | rfl | cases h
/-- not a call of no arguments (super()) -/
def noSuper : Expr → Bool
  | .Call _ [] [] _ => false
  | _ => true
theorem noSuper_ok {e : Expr} (h : noSuper e = true) (f : Str) (env : Env) : attributeBase e f env (eval e env) = eval e env := by
  unfold attributeBase
  split
  · cases h
  · rfl
def plainT : Expr → Bool
  | .UnaryOp .Not _ _ => false
  | .BoolOp .. => false
  | .IfExp .. => false
  | .Compare .. => false
  | _ => true
theorem plainT_ok {e : Expr} (h : plainT e = true) (env : Env) : ∀ whole, isTrue e env whole = (do let v ← whole; standAt e.pos; holding [v] (truthy v)) := by
  intro whole
  cases e with
  | UnaryOp op a p => cases op <;> first | rfl | cases h
  | _ => first | rfl | cases h
theorem star_any : ∀ {es : List Expr} {pos : Pos} {env : Env}, es.all noStar = true → (backTo pos (starEach es env)).any (·.1) = false
  | [], _, _, _ => rfl
  | e :: es, pos, env, h => by
    simp only [List.all_cons, Bool.and_eq_true] at h
    rw [noStar_ok h.1]
    have ih := star_any (pos := pos) (env := env) h.2
    show (false || (backTo pos (starEach es env)).any (·.1)) = false
    rw [ih]; rfl
theorem star_all : ∀ {es : List Expr} {pos : Pos} {env : Env}, es.all noStar = true → (backTo pos (starEach es env)).all (fun x => !x.1) = true
  | [], _, _, _ => rfl
  | e :: es, pos, env, h => by
    simp only [List.all_cons, Bool.and_eq_true] at h
    rw [noStar_ok h.1]
    have ih := star_all (pos := pos) (env := env) h.2
    show (!false && (backTo pos (starEach es env)).all (fun x => !x.1)) = true
    rw [ih]; rfl

section
variable {P : Pg} {fns : Nat → Option Fn} {ca fa : Nat → Addr} {fdt : Nat → FuncData} {C : Cal} {k : Nat} {X : Cx} {N : List Str} {sc : Scope} {W : XK}
abbrev SE (P : Pg) (ca : Nat → Addr) (C : Cal) (X : Cx) (W : XK) (x : Ex) (e : Expr) : Prop := PE X e (TEo X.K ca W (evE P C x))
abbrev SA (P : Pg) (ca : Nat → Addr) (C : Cal) (X : Cx) (W : XK) (x : List Ex) (e : List Expr) : Prop := PA X e (TAo X.K ca W (evEs P C x))
abbrev ST (P : Pg) (ca : Nat → Addr) (C : Cal) (X : Cx) (W : XK) (x : Ex) (e : Expr) : Prop := PT X e (TTo X.K ca W (evT P C x))
theorem Good.gl (g : Good P fns ca fa fdt C k X N sc W) {x : Str} (h : glB sc x = true) : Gl X x ∧ (x == ("__debug__" : Str)) = false ∧ x ≠ "__name__" := by
  obtain ⟨h1, h2, h3⟩ := glB_ok h
  exact ⟨by show X.env.scope.names.lookup x = _; rw [g.hsc]; exact h1, h2, h3⟩
theorem Good.hu (g : Good P fns ca fa fdt C k X N sc W) : X.A.units + 64 < cLine := g.room.units
theorem Good.passes (g : Good P fns ca fa fdt C k X N sc W) : Passes (L2.CX X.prog X.w) X W := passes_call g.tk fun _ _ _ _ h => h
theorem s_var (g : Good P fns ca fa fdt C k X N sc W) {i : Nat} {x : Str} {pos : Pos} (h1 : N[i]? = some x) (h2 : visB sc x = true) (h3 : (x == ("__debug__" : Str)) = false) (h4 : (x == ("__classdict__" : Str)) = false) : SE P ca C X W (.var i) (.Name x pos) := by
  refine PE.imp (pe_var (by rw [g.hN]; exact h1) (by rw [g.hsc]; exact visB_ok h2) h3 h4) fun σ H Q h => ?_
  obtain ⟨p, F, G, r, M, sr, er, h⟩ := h
  unfold evE at h
  split at h
  · rename_i d q
    obtain ⟨v, e1, e2⟩ := er.2 i d q
    exact ⟨v, e1, h.ok sr e2⟩
  · exact h.elim
theorem s_con {t : T} {c : Const} {j : Nat} {pos : Pos} (h : conB t c = true) : SE P ca C X W (.con t) (.Constant c j pos) := by
  have fin : ∀ {v : V}, (∀ F, RT X.K F t v) → ∀ σ H Q, TEo X.K ca W (evE P C (.con t)) σ H Q → tC v σ H Q := fun {v} hv σ H Q h => by
    obtain ⟨p, F, G, r, M, sr, er, h⟩ := h
    exact Tk.ok h sr (hv F)
  cases t with
  | non =>
    cases c with
    | none => exact PE.imp pe_non (fin fun F => rfl)
    | _ => cases h
  | bl b =>
    cases c with
    | bool d =>
      have e : b = d := by simpa [conB] using h
      subst e
      exact PE.imp pe_bl (fin fun F => rfl)
    | _ => cases h
  | int b =>
    cases c with
    | int d =>
      have e : b = d := by simpa [conB] using h
      subst e
      exact PE.imp pe_int (fin fun F => rfl)
    | _ => cases h
  | str b =>
    cases c with
    | str d =>
      have e : b = d := by simpa [conB] using h
      subst e
      exact PE.imp pe_str (fin fun F => rfl)
    | _ => cases h
  | _ => cases h
theorem s_glo (g : Good P fns ca fa fdt C k X N sc W) {n : Nat} {x : Str} {t : T} {pos : Pos} (h1 : P.consts[n]? = some (x, t)) (h2 : glB sc x = true) : SE P ca C X W (.glo n) (.Name x pos) := by
  obtain ⟨u, v, e1, e2, e3⟩ := g.fx.cst n x t h1
  obtain ⟨g1, g2, g3⟩ := g.gl h2
  refine PE.imp (pe_glob g1 e1 e2 g2) fun σ H Q h => ?_
  obtain ⟨p, F, G, r, M, sr, er, h⟩ := h
  unfold evE at h
  simp only [h1] at h
  exact Tk.ok h sr (e3 F)
/-- two expressions, then an operation on their values -/
theorem two_step {a b : Ex} {f : D → D → Ar → Res D} {σ : L2.St} {H : Hp} {Q : VK} (h : TEo X.K ca W (fun r M => (evE P C a r M).bind fun x M => (evE P C b r M).bind fun y M => f x y M) σ H Q) :
    tOp (rV X.K ca f) (TEo X.K ca W (evE P C a)) (TEo X.K ca W (evE P C b)) σ H Q := by
  obtain ⟨p, F, G, r, M, sr, er, h⟩ := h
  refine ⟨p, F, G, r, M, sr, er, (Tk.bind (rel := RD X.K) h).mono fun v H1 ⟨p1, F1, x, M1, a1, b1, s1, r1, _, h1⟩ => ?_⟩
  refine ⟨p1, F1, G, r, M1, s1, er.sub a1 b1, (Tk.bind (rel := RD X.K) h1).mono fun w H2 ⟨p2, F2, y, M2, a2, b2, s2, r2, _, h2⟩ => ?_⟩
  exact ⟨p2, F2, G, M2, x, y, W, s2, RD.sub a2 b2 x v r1, r2, h2⟩
theorem s_bin {o : BinK} {mu : Bool} {a b : Ex} {a' b' : Expr} {op : Operator} {pos : Pos} (ho : binB o op = true) (ha : SE P ca C X W a a') (hb : SE P ca C X W b b') : SE P ca C X W (.bin o mu a b) (.BinOp a' op b' pos) := by
  rw [binB_ok ho]
  refine PE.imp (pe_op (op_binV (ca := ca) o mu) ha hb) fun σ H Q h => two_step (h : TEo X.K ca W (fun r M => (evE P C a r M).bind fun x M => (evE P C b r M).bind fun y M => binV o mu x y M) σ H Q)
theorem s_neg {a : Ex} {a' : Expr} {pos : Pos} (ha : SE P ca C X W a a') : SE P ca C X W (.neg a) (.UnaryOp .USub a' pos) := by
  refine PE.imp (pe_un un_neg ha) fun σ H Q h => ?_
  obtain ⟨p, F, G, r, M, sr, er, h⟩ := h
  refine ⟨p, F, G, r, M, sr, er, (Tk.bind (rel := RD X.K) h).mono fun v H1 ⟨p1, F1, x, M1, a1, b1, s1, r1, _, h1⟩ => ?_⟩
  split at h1
  · exact ⟨_, r1, Tk.ok h1 s1 rfl⟩
  · exact h1.elim
theorem s_cmp (g : Good P fns ca fa fdt C k X N sc W) {o : CmpK} {a b : Ex} {a' b' : Expr} {op : CmpOp} {pos : Pos} (ho : cmpB o op = true) (hm : behindInMarks op b' = false) (ha : SE P ca C X W a a') (hb : SE P ca C X W b b') : SE P ca C X W (.cmp o a b) (.Compare a' [op] [b'] pos) := by
  rw [cmpB_ok ho] at hm ⊢
  exact PE.imp (pe_cmpR (op_cmpV (ca := ca) o g.hu) ha hb hm) fun σ H Q h => two_step (h : TEo X.K ca W (fun r M => (evE P C a r M).bind fun x M => (evE P C b r M).bind fun y M => cmpV o x y M) σ H Q)
theorem truV_ok {K : PySem.W.Frag} {p : List Addr} {F G : Hp} {M : Ar} {x : D} {v : V} {Q : Bool → Hp → Prop} {H : Hp} (s : SR K ca p F G M H) (r : RD K p F x v) (h : Tk K ca (fun _ _ (a b : Bool) => a = b) W G p F (truV x M) Q) : ∃ c, v = .bl c ∧ Q c H := by
  unfold truV at h
  split at h
  · exact ⟨_, r, Tk.ok h s rfl⟩
  · exact h.elim
theorem s_cmpT (g : Good P fns ca fa fdt C k X N sc W) {o : CmpK} {a b : Ex} {a' b' : Expr} {op : CmpOp} {pos : Pos} (ho : cmpB o op = true) (hm : behindInMarks op b' = false) (ha : SE P ca C X W a a') (hb : SE P ca C X W b b') : ST P ca C X W (.cmp o a b) (.Compare a' [op] [b'] pos) := by
  rw [cmpB_ok ho] at hm ⊢
  refine PT.imp (pt_cmpR (op_cmpV (ca := ca) o g.hu) ha hb hm) fun σ H Q h => ?_
  obtain ⟨p, F, G, r, M, sr, er, h⟩ := h
  refine two_step (P := P) (a := a) (b := b) ⟨p, F, G, r, M, sr, er, (Tk.bind (rel := RD X.K) (h : Tk X.K ca _ W G p F (Res.bind ((evE P C a r M).bind fun x M => (evE P C b r M).bind fun y M => cmpV o x y M) truV) Q)).mono fun v H1 ⟨p1, F1, x, M1, a1, b1, s1, r1, _, h1⟩ => ?_⟩
  exact truV_ok s1 r1 h1
theorem isNB_ok {K : PySem.W.Frag} {p : List Addr} {F : Hp} {yes : Bool} {x : D} {v : V} (r : RD K p F x v) : isNB yes x = (if yes then decide (v = .non) else !decide (v = .non)) := by
  have nr : v ≠ .non → (!yes) = (if yes then decide (v = .non) else !decide (v = .non)) := fun h => by cases yes <;> simp [h]
  cases x with
  | t y =>
    cases y with
    | non => cases r; cases yes <;> rfl
    | bl b => cases r; exact nr (by simp)
    | int b => cases r; exact nr (by simp)
    | str b => cases r; exact nr (by simp)
    | tup l => obtain ⟨a, vs, e, _⟩ := r; subst e; exact nr (by simp)
    | lst l => obtain ⟨a, vs, e, _⟩ := r; subst e; exact nr (by simp)
    | scr l => obtain ⟨a, e, _⟩ := r; subst e; exact nr (by simp)
  | ref i => obtain ⟨a, _, e⟩ := r; subst e; exact nr (by simp)
  | tup l => obtain ⟨a, vs, e, _⟩ := r; subst e; exact nr (by simp)
  | lst l => obtain ⟨a, vs, e, _⟩ := r; subst e; exact nr (by simp)
theorem s_isN {yes : Bool} {a : Ex} {a' : Expr} {op : CmpOp} {pos pos' : Pos} {j : Nat} (ho : op = if yes then .Is else .IsNot) (ha : SE P ca C X W a a') : SE P ca C X W (.isN yes a) (.Compare a' [op] [.Constant .none j pos'] pos) := by
  have down : ∀ σ H Q, TEo X.K ca W (evE P C (.isN yes a)) σ H Q → TEo X.K ca W (evE P C a) σ H fun v H1 => Q (.bl (if yes then decide (v = .non) else !decide (v = .non))) H1 := fun σ H Q h => by
    obtain ⟨p, F, G, r, M, sr, er, h⟩ := h
    refine ⟨p, F, G, r, M, sr, er, (Tk.bind (rel := RD X.K) h).mono fun v H1 ⟨p1, F1, x, M1, a1, b1, s1, r1, _, h1⟩ => ?_⟩
    have := Tk.ok h1 s1 rfl
    rw [isNB_ok r1] at this
    exact this
  cases yes with
  | true =>
    simp only [if_true] at ho
    subst ho
    refine PE.imp (pe_cmp (pc_isN ha)) fun σ H Q h => ?_
    have := down σ H Q h
    simp only [if_true] at this
    exact this
  | false =>
    simp only [Bool.false_eq_true, if_false] at ho
    subst ho
    refine PE.imp (pe_cmp (pc_notN ha)) fun σ H Q h => ?_
    have := down σ H Q h
    simp only [Bool.false_eq_true, if_false] at this
    exact this
theorem s_isNT {yes : Bool} {a : Ex} {a' : Expr} {op : CmpOp} {pos pos' : Pos} {j : Nat} (ho : op = if yes then .Is else .IsNot) (ha : SE P ca C X W a a') : ST P ca C X W (.isN yes a) (.Compare a' [op] [.Constant .none j pos'] pos) := by
  have down : ∀ σ H Q, TTo X.K ca W (evT P C (.isN yes a)) σ H Q → TEo X.K ca W (evE P C a) σ H fun v H1 => Q (if yes then decide (v = .non) else !decide (v = .non)) H1 := fun σ H Q h => by
    obtain ⟨p, F, G, r, M, sr, er, h⟩ := h
    have h' : Tk X.K ca (fun _ _ (a b : Bool) => a = b) W G p F (Res.bind ((evE P C a r M).bind fun x M => .ok (.t (.bl (isNB yes x))) M) truV) Q := h
    rw [Res.bind_assoc] at h'
    refine ⟨p, F, G, r, M, sr, er, (Tk.bind (rel := RD X.K) h').mono fun v H1 ⟨p1, F1, x, M1, a1, b1, s1, r1, _, h1⟩ => ?_⟩
    have := Tk.ok (show Tk X.K ca (fun _ _ (a b : Bool) => a = b) W G p1 F1 (.ok (isNB yes x) M1) Q from h1) s1 rfl
    rw [isNB_ok r1] at this
    exact this
  cases yes with
  | true =>
    simp only [if_true] at ho
    subst ho
    refine PT.imp (pt_cmp (pc_isN ha)) fun σ H Q h => ?_
    have := down σ H Q h
    simp only [if_true] at this
    obtain ⟨p, F, G, r, M, sr, er, h⟩ := this
    exact ⟨p, F, G, r, M, sr, er, h.mono fun v H1 q => ⟨_, rfl, q⟩⟩
  | false =>
    simp only [Bool.false_eq_true, if_false] at ho
    subst ho
    refine PT.imp (pt_cmp (pc_notN ha)) fun σ H Q h => ?_
    have := down σ H Q h
    simp only [Bool.false_eq_true, if_false] at this
    obtain ⟨p, F, G, r, M, sr, er, h⟩ := this
    exact ⟨p, F, G, r, M, sr, er, h.mono fun v H1 q => ⟨_, rfl, q⟩⟩
/-- a chain of two comparisons -/
theorem chain_step {o1 o2 : CmpK} {a b c : Ex} {σ : L2.St} {H : Hp} {Q : VK} (h : TEo X.K ca W (evE P C (.chain o1 o2 a b c)) σ H Q) :
    tChain (rV X.K ca (cmpV o1)) (rV X.K ca (cmpV o2)) (TEo X.K ca W (evE P C a)) (TEo X.K ca W (evE P C b)) (TEo X.K ca W (evE P C c)) σ H Q := by
  obtain ⟨p, F, G, r, M, sr, er, h⟩ := h
  refine ⟨p, F, G, r, M, sr, er, (Tk.bind (rel := RD X.K) h).mono fun v H1 ⟨p1, F1, x, M1, a1, b1, s1, r1, _, h1⟩ => ?_⟩
  refine ⟨p1, F1, G, r, M1, s1, er.sub a1 b1, (Tk.bind (rel := RD X.K) h1).mono fun w H2 ⟨p2, F2, y, M2, a2, b2, s2, r2, _, h2⟩ => ?_⟩
  refine ⟨p2, F2, G, M2, x, y, W, s2, RD.sub a2 b2 x v r1, r2, (Tk.bind (rel := RD X.K) h2).mono fun z H3 ⟨p3, F3, zz, M3, a3, b3, s3, r3, _, h3⟩ => ?_⟩
  obtain ⟨kk, e1, p4, F4, k', M4, a4, b4, s4, r4, e4, h4⟩ := truV_ok s3 r3 (Tk.bind (rel := fun _ _ (a b : Bool) => a = b) h3)
  subst e1
  have r4' : k' = kk := r4
  subst r4'
  refine ⟨k', rfl, ?_⟩
  cases k' with
  | true =>
    rw [if_pos rfl]
    refine ⟨p4, F4, G, r, M4, s4, ((er.sub a1 b1).sub (a2.trans a3) (b2.trans b3)).sub a4 b4, (Tk.bind (rel := RD X.K) (show Tk X.K ca (RD X.K) W G p4 F4 ((evE P C c r M4).bind fun u M => cmpV o2 y u M) Q from h4)).mono fun u H5 ⟨p5, F5, uu, M5, a5, b5, s5, r5, _, h5⟩ => ?_⟩
    exact ⟨p5, F5, G, M5, y, uu, W, s5, RD.sub ((a3.trans a4).trans a5) ((b3.trans b4).trans b5) y w r2, r5, h5⟩
  | false =>
    rw [if_neg (by simp)]
    exact Tk.ok (show Tk X.K ca (RD X.K) W G p4 F4 (.ok (.t (.bl false)) M4) Q from h4) s4 rfl
theorem s_chain (g : Good P fns ca fa fdt C k X N sc W) {o1 o2 : CmpK} {a b c : Ex} {a' b' c' : Expr} {p1 p2 : CmpOp} {pos : Pos} (h1 : cmpB o1 p1 = true) (h2 : cmpB o2 p2 = true) (hm : lastMarks [p1, p2] [b', c'] = false)
    (ha : SE P ca C X W a a') (hb : SE P ca C X W b b') (hc : SE P ca C X W c c') : SE P ca C X W (.chain o1 o2 a b c) (.Compare a' [p1, p2] [b', c'] pos) := by
  rw [cmpB_ok h1, cmpB_ok h2] at hm ⊢
  exact PE.imp (pe_chain (op_cmpV (ca := ca) o1 g.hu) (op_cmpV (ca := ca) o2 g.hu) ha hb hc hm) fun σ H Q h => chain_step h
theorem s_chainT (g : Good P fns ca fa fdt C k X N sc W) {o1 o2 : CmpK} {a b c : Ex} {a' b' c' : Expr} {p1 p2 : CmpOp} {pos : Pos} (h1 : cmpB o1 p1 = true) (h2 : cmpB o2 p2 = true) (hm : lastMarks [p1, p2] [b', c'] = false)
    (ha : SE P ca C X W a a') (hb : SE P ca C X W b b') (hc : SE P ca C X W c c') : ST P ca C X W (.chain o1 o2 a b c) (.Compare a' [p1, p2] [b', c'] pos) := by
  rw [cmpB_ok h1, cmpB_ok h2] at hm ⊢
  refine PT.imp (pt_chain (op_cmpV (ca := ca) o1 g.hu) (op_cmpV (ca := ca) o2 g.hu) ha hb hc hm) fun σ H Q h => ?_
  obtain ⟨p, F, G, r, M, sr, er, h⟩ := h
  refine chain_step (P := P) ⟨p, F, G, r, M, sr, er, (Tk.bind (rel := RD X.K) (h : Tk X.K ca _ W G p F ((evE P C (.chain o1 o2 a b c) r M).bind truV) Q)).mono fun v H1 ⟨p1, F1, x, M1, a1, b1, s1, r1, _, h1⟩ => ?_⟩
  exact truV_ok s1 r1 h1
/-- a test by its value -/
theorem s_valT {a : Ex} {a' : Expr} (h : plainT a' = true) (ha : SE P ca C X W a a') : ST P ca C X W a a' := by
  refine PT.imp (pt_val ha (plainT_ok h X.env)) fun σ H Q h => ?_
  obtain ⟨p, F, G, r, M, sr, er, h⟩ := h
  refine ⟨p, F, G, r, M, sr, er, (Tk.bind (rel := RD X.K) (h : Tk X.K ca _ W G p F ((evE P C a r M).bind truV) Q)).mono fun v H1 ⟨p1, F1, x, M1, a1, b1, s1, r1, _, h1⟩ => ?_⟩
  exact truV_ok s1 r1 h1
end
end Rw
end

section
set_option Elab.async false
set_option linter.all false
set_option maxRecDepth 100000
/-! expressions, the rest but comprehensions -/
namespace Rw
open PySem PySem.Spec PyProof.Rows L2
section
variable {K : PySem.W.Frag} {ca : Nat → Addr} {p : List Addr} {F G G' H : Hp} {M : Ar} {W : XK} {α β γ δ : Type} {rel : List Addr → Hp → α → β → Prop} {rel' : List Addr → Hp → γ → δ → Prop}
/-- .. with more in the frame for the first part -/
theorem Tk.bindG {r : Res α} {f : α → Ar → Res γ} {Q : δ → Hp → Prop} (hs : Sub G G') (h : Tk K ca rel' W G p F (r.bind f) Q) :
    Tk K ca rel W G' p F r (fun v H' => ∃ p' F' a M', Pre p p' ∧ Sub F F' ∧ SR K ca p' F' G' M' H' ∧ rel p' F' a v ∧ r = .ok a M' ∧ Tk K ca rel' W G p' F' (f a M') Q) := by
  cases r with
  | ok a M =>
    intro p' F' H' v h1 h2 h3 h4
    refine ⟨p', F', a, M, h1, h2, h3, h4, rfl, ?_⟩
    have h' : Tk K ca rel' W G p F (f a M) Q := h
    cases e : f a M with
    | ok b M2 => rw [e] at h'; exact fun p2 F2 H2 v2 k1 k2 k3 k4 => h' p2 F2 H2 v2 (h1.trans k1) (h2.trans k2) k3 k4
    | exc c fs M2 => rw [e] at h'; exact fun p2 F2 H2 v2 d2 k1 k2 k3 k4 => h' p2 F2 H2 v2 d2 (h1.trans k1) (h2.trans k2) k3 k4
    | stuck => rw [e] at h'; exact h'
  | exc c fs M => exact fun p' F' H' cls d h1 h2 h3 h4 => h p' F' H' cls d h1 h2 (h3.lessG hs) h4
  | stuck => exact h
theorem Tk.pre {p' : List Addr} {F' : Hp} {r : Res α} {Q : β → Hp → Prop} (h : Tk K ca rel W G p F r Q) (n : Pre p p') (m : Sub F F') : Tk K ca rel W G p' F' r Q := by
  cases r with
  | ok a M => exact fun p2 F2 H' v k1 k2 k3 k4 => h p2 F2 H' v (n.trans k1) (m.trans k2) k3 k4
  | exc c fs M => exact fun p2 F2 H' v d k1 k2 k3 k4 => h p2 F2 H' v d (n.trans k1) (m.trans k2) k3 k4
  | stuck => exact h
/-- a thing of the frame has changed -/
theorem SR.setG {a : Addr} {o o' : HO} (s : SR K ca p F (upd G a o) M H) : SR K ca p F (upd G a o') M (upd H a o') := by
  have nf : F a = none := by
    rcases s.fg a with h | h
    · exact h
    · rw [upd_same] at h; cases h
  have np : a ∉ p := fun h => by have := s.pg a h; rw [upd_same] at this; cases this
  refine ⟨s.len, s.nd, fun b u e => ?_, fun b u e => ?_, fun b => ?_, s.pf, fun b hb => ?_, fun i b u e1 e2 => ?_⟩
  · rw [upd_ne (ne_of_none e nf)]; exact s.fr b u e
  · by_cases h : b = a
    · subst h; rw [upd_same] at e ⊢; exact e
    · rw [upd_ne h] at e ⊢
      exact s.gr b u (by rw [upd_ne h]; exact e)
  · by_cases h : b = a
    · subst h; exact .inl nf
    · rw [upd_ne h]
      rcases s.fg b with z | z
      · exact .inl z
      · rw [upd_ne h] at z; exact .inr z
  · have h : b ≠ a := fun e => np (e ▸ hb)
    rw [upd_ne h]
    have := s.pg b hb
    rw [upd_ne h] at this; exact this
  · have hb : b ≠ a := fun e => np (e ▸ List.mem_of_getElem? e1)
    exact (s.ob i b u e1 e2).sub (Pre.refl _) (Sub.refl _) (by rw [upd_ne hb])
end
section
variable {P : Pg} {fns : Nat → Option Fn} {ca fa : Nat → Addr} {fdt : Nat → FuncData} {C : Cal} {k : Nat} {X : Cx} {N : List Str} {sc : Scope} {W : XK}
/-! ### and, or, not, if -/
theorem s_one {op : BoolOp} {a : Ex} {a' : Expr} {pos : Pos} (ha : SE P ca C X W a a') : PE X (.BoolOp op [a'] pos) (TEo X.K ca W (evE P C a)) := pe_one ha
theorem s_and {a b : Ex} {es : List Ex} {a' b' : Expr} {es' : List Expr} {pos : Pos} (ha : SE P ca C X W a a') (hb : PE X (.BoolOp .And (b' :: es') pos) (TEo X.K ca W (evAnd P C (b :: es)))) : PE X (.BoolOp .And (a' :: b' :: es') pos) (TEo X.K ca W (evAnd P C (a :: b :: es))) := by
  refine PE.imp (pe_and ha hb) fun σ H Q h => ?_
  obtain ⟨p, F, G, r, M, sr, er, h⟩ := h
  refine ⟨p, F, G, r, M, sr, er, (Tk.bind (rel := RD X.K) h).mono fun v H1 ⟨p1, F1, x, M1, a1, b1, s1, r1, _, h1⟩ => ?_⟩
  obtain ⟨kk, e1, p4, F4, k', M4, a4, b4, s4, r4, e4, h4⟩ := truV_ok s1 r1 (Tk.bind (rel := fun _ _ (a b : Bool) => a = b) h1)
  have r4' : k' = kk := r4
  subst r4'
  refine ⟨k', e1, ?_⟩
  cases k' with
  | true => rw [if_pos rfl]; exact ⟨p4, F4, G, r, M4, s4, (er.sub a1 b1).sub a4 b4, h4⟩
  | false => rw [if_neg (by simp)]; exact Tk.ok (show Tk X.K ca (RD X.K) W G p4 F4 (.ok (.t (.bl false)) M4) Q from h4) s4 rfl
theorem s_or {a b : Ex} {es : List Ex} {a' b' : Expr} {es' : List Expr} {pos : Pos} (ha : SE P ca C X W a a') (hb : PE X (.BoolOp .Or (b' :: es') pos) (TEo X.K ca W (evOr P C (b :: es)))) : PE X (.BoolOp .Or (a' :: b' :: es') pos) (TEo X.K ca W (evOr P C (a :: b :: es))) := by
  refine PE.imp (pe_or ha hb) fun σ H Q h => ?_
  obtain ⟨p, F, G, r, M, sr, er, h⟩ := h
  refine ⟨p, F, G, r, M, sr, er, (Tk.bind (rel := RD X.K) h).mono fun v H1 ⟨p1, F1, x, M1, a1, b1, s1, r1, _, h1⟩ => ?_⟩
  obtain ⟨kk, e1, p4, F4, k', M4, a4, b4, s4, r4, e4, h4⟩ := truV_ok s1 r1 (Tk.bind (rel := fun _ _ (a b : Bool) => a = b) h1)
  have r4' : k' = kk := r4
  subst r4'
  refine ⟨k', e1, ?_⟩
  cases k' with
  | false => rw [if_neg (by simp)]; exact ⟨p4, F4, G, r, M4, s4, (er.sub a1 b1).sub a4 b4, h4⟩
  | true => rw [if_pos rfl]; exact Tk.ok (show Tk X.K ca (RD X.K) W G p4 F4 (.ok (.t (.bl true)) M4) Q from h4) s4 rfl
theorem s_not {a : Ex} {a' : Expr} {pos : Pos} (ha : SE P ca C X W a a') : SE P ca C X W (.not a) (.UnaryOp .Not a' pos) := by
  refine PE.imp (pe_not ha) fun σ H Q h => ?_
  obtain ⟨p, F, G, r, M, sr, er, h⟩ := h
  refine ⟨p, F, G, r, M, sr, er, (Tk.bind (rel := RD X.K) h).mono fun v H1 ⟨p1, F1, x, M1, a1, b1, s1, r1, _, h1⟩ => ?_⟩
  obtain ⟨kk, e1, p4, F4, k', M4, a4, b4, s4, r4, e4, h4⟩ := truV_ok s1 r1 (Tk.bind (rel := fun _ _ (a b : Bool) => a = b) h1)
  have r4' : k' = kk := r4
  subst r4'
  exact ⟨k', e1, Tk.ok h4 s4 rfl⟩
/-- the tests -/
theorem s_oneTA {a : Ex} {a' : Expr} {pos : Pos} (ha : ST P ca C X W a a') : PW X (.BoolOp .And [a'] pos) (TTo X.K ca W (fun r M => (evAnd P C [a] r M).bind truV)) := pw_and1 ha
theorem s_oneTO {a : Ex} {a' : Expr} {pos : Pos} (ha : ST P ca C X W a a') : PW X (.BoolOp .Or [a'] pos) (TTo X.K ca W (fun r M => (evOr P C [a] r M).bind truV)) := pw_or1 ha
theorem tru_split {a : Ex} {f : Bool → Ar → Res D} {r : En} {M : Ar} : Res.bind ((evE P C a r M).bind fun x M => (truV x M).bind f) truV = (evT P C a r M).bind fun k M => (f k M).bind truV := by
  unfold evT
  rw [Res.bind_assoc, Res.bind_assoc]
  congr 1
  funext x M
  rw [Res.bind_assoc]
theorem s_andT {a b : Ex} {es : List Ex} {a' b' : Expr} {es' : List Expr} {pos : Pos} (ha : ST P ca C X W a a') (hb : PW X (.BoolOp .And (b' :: es') pos) (TTo X.K ca W (fun r M => (evAnd P C (b :: es) r M).bind truV))) :
    PW X (.BoolOp .And (a' :: b' :: es') pos) (TTo X.K ca W (fun r M => (evAnd P C (a :: b :: es) r M).bind truV)) := by
  refine PW.imp (pw_and ha hb) fun σ H Q h => ?_
  obtain ⟨p, F, G, r, M, sr, er, h⟩ := h
  have h' : Tk X.K ca (fun _ _ (a b : Bool) => a = b) W G p F (Res.bind ((evE P C a r M).bind fun x M => (truV x M).bind fun k M => match k with | true => evAnd P C (b :: es) r M | false => .ok (.t (.bl false)) M) truV) Q := h
  rw [tru_split] at h'
  refine ⟨p, F, G, r, M, sr, er, (Tk.bind (rel := fun _ _ (a b : Bool) => a = b) h').mono fun c H1 ⟨p1, F1, x, M1, a1, b1, s1, r1, _, h1⟩ => ?_⟩
  have r1' : x = c := r1
  subst r1'
  cases x with
  | true => rw [if_pos rfl]; exact ⟨p1, F1, G, r, M1, s1, er.sub a1 b1, h1⟩
  | false => rw [if_neg (by simp)]; exact Tk.ok (show Tk X.K ca (fun _ _ (a b : Bool) => a = b) W G p1 F1 (.ok false M1) Q from h1) s1 rfl
theorem s_orT {a b : Ex} {es : List Ex} {a' b' : Expr} {es' : List Expr} {pos : Pos} (ha : ST P ca C X W a a') (hb : PW X (.BoolOp .Or (b' :: es') pos) (TTo X.K ca W (fun r M => (evOr P C (b :: es) r M).bind truV))) :
    PW X (.BoolOp .Or (a' :: b' :: es') pos) (TTo X.K ca W (fun r M => (evOr P C (a :: b :: es) r M).bind truV)) := by
  refine PW.imp (pw_or ha hb) fun σ H Q h => ?_
  obtain ⟨p, F, G, r, M, sr, er, h⟩ := h
  have h' : Tk X.K ca (fun _ _ (a b : Bool) => a = b) W G p F (Res.bind ((evE P C a r M).bind fun x M => (truV x M).bind fun k M => match k with | true => .ok (.t (.bl true)) M | false => evOr P C (b :: es) r M) truV) Q := h
  rw [tru_split] at h'
  refine ⟨p, F, G, r, M, sr, er, (Tk.bind (rel := fun _ _ (a b : Bool) => a = b) h').mono fun c H1 ⟨p1, F1, x, M1, a1, b1, s1, r1, _, h1⟩ => ?_⟩
  have r1' : x = c := r1
  subst r1'
  cases x with
  | false => rw [if_neg (by simp)]; exact ⟨p1, F1, G, r, M1, s1, er.sub a1 b1, h1⟩
  | true => rw [if_pos rfl]; exact Tk.ok (show Tk X.K ca (fun _ _ (a b : Bool) => a = b) W G p1 F1 (.ok true M1) Q from h1) s1 rfl
theorem s_notT {a : Ex} {a' : Expr} {pos : Pos} (ha : ST P ca C X W a a') : ST P ca C X W (.not a) (.UnaryOp .Not a' pos) := by
  refine PT.imp (pt_not ha) fun σ H Q h => ?_
  obtain ⟨p, F, G, r, M, sr, er, h⟩ := h
  have h' : Tk X.K ca (fun _ _ (a b : Bool) => a = b) W G p F (Res.bind ((evE P C a r M).bind fun x M => (truV x M).bind fun k M => .ok (.t (.bl (!k))) M) truV) Q := h
  rw [tru_split] at h'
  refine ⟨p, F, G, r, M, sr, er, (Tk.bind (rel := fun _ _ (a b : Bool) => a = b) h').mono fun c H1 ⟨p1, F1, x, M1, a1, b1, s1, r1, _, h1⟩ => ?_⟩
  have r1' : x = c := r1
  subst r1'
  exact Tk.ok (show Tk X.K ca (fun _ _ (a b : Bool) => a = b) W G p1 F1 (.ok (!x) M1) Q from h1) s1 rfl
theorem s_ife {c a b : Ex} {c' a' b' : Expr} {pos : Pos} (hc : ST P ca C X W c c') (ha : SE P ca C X W a a') (hb : SE P ca C X W b b') : SE P ca C X W (.ife c a b) (.IfExp c' a' b' pos) := by
  refine PE.imp (pe_ifExp hc ha hb) fun σ H Q h => ?_
  obtain ⟨p, F, G, r, M, sr, er, h⟩ := h
  refine ⟨p, F, G, r, M, sr, er, (Tk.bind (rel := fun _ _ (a b : Bool) => a = b) (show Tk X.K ca (RD X.K) W G p F ((evT P C c r M).bind fun k M => match k with | true => evE P C a r M | false => evE P C b r M) Q from h)).mono fun kk H1 ⟨p1, F1, x, M1, a1, b1, s1, r1, _, h1⟩ => ?_⟩
  have r1' : x = kk := r1
  subst r1'
  cases x with
  | true => rw [if_pos rfl]; exact ⟨p1, F1, G, r, M1, s1, er.sub a1 b1, h1⟩
  | false => rw [if_neg (by simp)]; exact ⟨p1, F1, G, r, M1, s1, er.sub a1 b1, h1⟩
/-! ### argument lists, displays -/
theorem s_nil : SA P ca C X W [] [] := by
  refine PA.imp pa_nil fun σ H Q h => ?_
  obtain ⟨p, F, G, r, M, sr, er, h⟩ := h
  exact Tk.ok h sr rfl
theorem s_cons {a : Ex} {es : List Ex} {a' : Expr} {es' : List Expr} (hs : noStar a' = true) (ha : SE P ca C X W a a') (hb : SA P ca C X W es es') : SA P ca C X W (a :: es) (a' :: es') := by
  refine PA.imp (pa_cons ha hb (noStar_ok hs _ _)) fun σ H Q h => ?_
  obtain ⟨p, F, G, r, M, sr, er, h⟩ := h
  refine ⟨p, F, G, r, M, sr, er, (Tk.bind (rel := RD X.K) h).mono fun v H1 ⟨p1, F1, x, M1, a1, b1, s1, r1, _, h1⟩ => ?_⟩
  refine ⟨p1, F1, G, r, M1, s1, er.sub a1 b1, (Tk.bind (rel := RDs X.K) h1).mono fun vs H2 ⟨p2, F2, xs, M2, a2, b2, s2, r2, _, h2⟩ => ?_⟩
  exact Tk.ok h2 s2 ⟨v, vs, rfl, RD.sub a2 b2 x v r1, r2⟩
theorem s_list {mu : Bool} {es : List Ex} {es' : List Expr} {pos : Pos} (ha : SA P ca C X W es es') : SE P ca C X W (.list mu es) (.List es' pos) := by
  refine PE.imp (pe_lst ha) fun σ H Q h => ?_
  obtain ⟨p, F, G, r, M, sr, er, h⟩ := h
  refine ⟨p, F, G, r, M, sr, er, (Tk.bind (rel := RDs X.K) h).mono fun vs H1 ⟨p1, F1, xs, M1, a1, b1, s1, r1, _, h1⟩ => ?_⟩
  obtain ⟨z1, z2⟩ := Tk.okIf h1
  have z3 := of_decide_eq_true z1
  rw [r1.length, line_eq] at z3
  exact ⟨z3, fun q hq => mkL_ok s1 r1 z2 hq⟩
theorem s_tuple {es : List Ex} {es' : List Expr} {j : Nat} {pos : Pos} (ha : SA P ca C X W es es') : SE P ca C X W (.tuple es) (.Tuple es' j pos) := by
  refine PE.imp (pe_tup ha) fun σ H Q h => ?_
  obtain ⟨p, F, G, r, M, sr, er, h⟩ := h
  refine ⟨p, F, G, r, M, sr, er, (Tk.bind (rel := RDs X.K) h).mono fun vs H1 ⟨p1, F1, xs, M1, a1, b1, s1, r1, _, h1⟩ => ?_⟩
  obtain ⟨z1, z2⟩ := Tk.okIf h1
  have z3 := of_decide_eq_true z1
  rw [r1.length, line_eq] at z3
  exact ⟨z3, fun q hq => mkT_ok s1 r1 z2 hq⟩
theorem s_idx {a b : Ex} {a' b' : Expr} {pos : Pos} (hs : noSlice b' = true) (ha : SE P ca C X W a a') (hb : SE P ca C X W b b') : SE P ca C X W (.idx a b) (.Subscript a' b' pos) :=
  PE.imp (pe_ix (ix_V (ca := ca)) ha hb (noSlice_ok hs)) fun σ H Q h => two_step (h : TEo X.K ca W (fun r M => (evE P C a r M).bind fun x M => (evE P C b r M).bind fun y M => idxV x y M) σ H Q)
def TOo (K : PySem.W.Frag) (ca : Nat → Addr) (W : XK) (f : En → Ar → Res (Option Int)) : TO := fun σ H Q => ∃ p F G r M, SR K ca p F G M H ∧ ER K p F r σ ∧ Tk K ca (fun _ _ (a b : Option Int) => a = b) W G p F (f r M) Q
theorem PO.imp {e : Option Expr} {t t' : TO} (h : PO X e t) (k : ∀ σ H Q, t' σ H Q → t σ H Q) : PO X e t' := ⟨fun pins s σ H Q I q => h.run pins s σ H Q I (k σ H Q q)⟩
theorem s_pnone : PO X none (TOo X.K ca W (evO P C none)) := by
  refine PO.imp po_none fun σ H Q h => ?_
  obtain ⟨p, F, G, r, M, sr, er, h⟩ := h
  exact Tk.ok h sr rfl
theorem s_psome {a : Ex} {a' : Expr} (ha : SE P ca C X W a a') : PO X (some a') (TOo X.K ca W (evO P C (some a))) := by
  refine PO.imp (po_some ha) fun σ H Q h => ?_
  obtain ⟨p, F, G, r, M, sr, er, h⟩ := h
  refine ⟨p, F, G, r, M, sr, er, (Tk.bind (rel := RD X.K) h).mono fun v H1 ⟨p1, F1, x, M1, a1, b1, s1, r1, _, h1⟩ => ?_⟩
  split at h1
  · exact ⟨_, r1, Tk.ok h1 s1 rfl⟩
  · exact h1.elim
theorem s_slc {mu : Bool} {a : Ex} {lo hi : Option Ex} {a' : Expr} {lo' hi' : Option Expr} {pos p2 : Pos} (ha : SE P ca C X W a a') (hl : PO X lo' (TOo X.K ca W (evO P C lo))) (hh : PO X hi' (TOo X.K ca W (evO P C hi))) :
    SE P ca C X W (.slc mu a lo hi) (.Subscript a' (.Slice lo' hi' none p2) pos) := by
  refine PE.imp (pe_slice (sl_V (ca := ca) mu) ha hl hh) fun σ H Q h => ?_
  obtain ⟨p, F, G, r, M, sr, er, h⟩ := h
  refine ⟨p, F, G, r, M, sr, er, (Tk.bind (rel := RD X.K) h).mono fun v H1 ⟨p1, F1, x, M1, a1, b1, s1, r1, _, h1⟩ => ?_⟩
  refine ⟨p1, F1, G, r, M1, s1, er.sub a1 b1, (Tk.bind (rel := fun _ _ (a b : Option Int) => a = b) h1).mono fun l H2 ⟨p2, F2, l2, M2, a2, b2, s2, r2, _, h2⟩ => ?_⟩
  refine ⟨p2, F2, G, r, M2, s2, (er.sub a1 b1).sub a2 b2, (Tk.bind (rel := fun _ _ (a b : Option Int) => a = b) h2).mono fun u H3 ⟨p3, F3, u2, M3, a3, b3, s3, r3, _, h3⟩ => ?_⟩
  have e2 : l2 = l := r2
  have e3 : u2 = u := r3
  subst e2 e3
  exact ⟨p3, F3, G, M3, x, W, s3, RD.sub (a2.trans a3) (b2.trans b3) x v r1, h3⟩
/-! ### built-ins -/
theorem bi_step {f : BiK} {es : List Ex} {σ : L2.St} {H : Hp} {Q : VK} (h : TEo X.K ca W (evE P C (.bi f es)) σ H Q) : tCB (rC X.K ca f) (TAo X.K ca W (evEs P C es)) σ H Q := by
  obtain ⟨p, F, G, r, M, sr, er, h⟩ := h
  refine ⟨p, F, G, r, M, sr, er, (Tk.bind (rel := RDs X.K) h).mono fun vs H1 ⟨p1, F1, xs, M1, a1, b1, s1, r1, _, h1⟩ => ?_⟩
  exact ⟨p1, F1, G, M1, xs, W, s1, r1, h1⟩
theorem s_biB (g : Good P fns ca fa fdt C k X N sc W) {f : BiK} {x : Str} {id : String} {a : Ex} {es : List Ex} {a' : Expr} {es' : List Expr} {pp pos : Pos} (hr : CallR X (.builtin id) (rC X.K ca f)) (hf : x ∈ (["len", "int", "list", "tuple", "isinstance", "bool", "min", "max", "range", "enumerate"] : List Str)) (hv : bootBuiltins x = some (.builtin id)) (hg : glB sc x = true)
    (hs : (a' :: es').all noStar = true) (ha : SA P ca C X W (a :: es) (a' :: es')) : SE P ca C X W (.bi f (a :: es)) (.Call (.Name x pp) (a' :: es') [] pos) := by
  obtain ⟨g1, g2, g3⟩ := g.gl hg
  simp only [List.all_cons, Bool.and_eq_true] at hs
  exact PE.imp (pe_callB hr g1 (g.fx.free x hf) hv ha g3 g2 (noStar_ok hs.1 _ _) (star_any hs.2)) fun σ H Q h => bi_step h
theorem s_biT (g : Good P fns ca fa fdt C k X N sc W) {f : BiK} {x : Str} {id : String} {a : Ex} {es : List Ex} {a' : Expr} {es' : List Expr} {pp pos : Pos} (hr : CallR X (.type id) (rC X.K ca f)) (hf : x ∈ (["len", "int", "list", "tuple", "isinstance", "bool", "min", "max", "range", "enumerate"] : List Str)) (hv : bootBuiltins x = some (.type id)) (hg : glB sc x = true)
    (hs : (a' :: es').all noStar = true) (ha : SA P ca C X W (a :: es) (a' :: es')) : SE P ca C X W (.bi f (a :: es)) (.Call (.Name x pp) (a' :: es') [] pos) := by
  obtain ⟨g1, g2, g3⟩ := g.gl hg
  simp only [List.all_cons, Bool.and_eq_true] at hs
  exact PE.imp (pe_callTy hr g1 (g.fx.free x hf) hv ha g3 g2 (noStar_ok hs.1 _ _) (star_any hs.2)) fun σ H Q h => bi_step h
/-- isinstance(e, T) -/
theorem s_isi (g : Good P fns ca fa fdt C k X N sc W) {f : BiK} {T : String} {Tx : Str} {a : Ex} {a' : Expr} {pp pt pos : Pos} (hT : ∀ t : Ty, kitB t.name T = some (isTy f t)) (hbi : ∀ d M, biV f [d] M = isV f d M) (hfT : Tx ∈ (["len", "int", "list", "tuple", "isinstance", "bool", "min", "max", "range", "enumerate"] : List Str)) (hvT : bootBuiltins Tx = some (.type T)) (hgT : glB sc Tx = true) (hg : glB sc "isinstance" = true)
    (hs : noStar a' = true) (ha : SE P ca C X W a a') : SE P ca C X W (.bi f [a]) (.Call (.Name "isinstance" pp) [a', .Name Tx pt] [] pos) := by
  obtain ⟨g1, g2, g3⟩ := g.gl hg
  obtain ⟨t1, t2, t3⟩ := g.gl hgT
  refine PE.imp (pe_callB call_isi g1 (g.fx.free "isinstance" (by decide)) PyProof.Rows.boot_isinstance (pa_cons ha (pa_cons (pe_bltn (v := .ty T) t1 (g.fx.free Tx hfT) hvT rfl t3 t2) pa_nil) (noStar_ok hs _ _)) g3 g2 (noStar_ok hs _ _) rfl) fun σ H Q h => ?_
  obtain ⟨p, F, G, r, M, sr, er, h⟩ := h
  have h' : Tk X.K ca (RD X.K) W G p F (((evE P C a r M).bind fun d M => .ok [d] M).bind fun ds M => biV f ds M) Q := h
  rw [Res.bind_assoc] at h'
  refine ⟨p, F, G, r, M, sr, er, (Tk.bind (rel := RD X.K) h').mono fun v H1 ⟨p1, F1, x, M1, a1, b1, s1, r1, _, h1⟩ => ?_⟩
  have h2 : Tk X.K ca (RD X.K) W G p1 F1 (biV f [x] M1) Q := h1
  rw [hbi] at h2
  unfold isV at h2
  cases q : tyD M1 x with
  | none => simp only [q] at h2; exact h2.elim
  | some t =>
    simp only [q] at h2
    exact ⟨v, .ty T, .type t.name, .type T, isTy f t, rfl, .ty T, tyD_ok s1 r1 q, kit_ty (hT t), Tk.ok h2 s1 rfl⟩
/-- isinstance(e, (tuple, list)) -/
theorem s_isiT (g : Good P fns ca fa fdt C k X N sc W) {a : Ex} {a' : Expr} {pp p1' p2' pt pos : Pos} {j : Nat} (h1g : glB sc "tuple" = true) (h2g : glB sc "list" = true) (hg : glB sc "isinstance" = true)
    (hs : noStar a' = true) (ha : SE P ca C X W a a') : SE P ca C X W (.bi .isSeq [a]) (.Call (.Name "isinstance" pp) [a', .Tuple [.Name "tuple" p1', .Name "list" p2'] j pt] [] pos) := by
  obtain ⟨g1, g2, g3⟩ := g.gl hg
  obtain ⟨t1, t2, t3⟩ := g.gl h1g
  obtain ⟨l1, l2, l3⟩ := g.gl h2g
  refine PE.imp (pe_callB call_isiT g1 (g.fx.free "isinstance" (by decide)) PyProof.Rows.boot_isinstance (pa_cons ha (pa_cons (pe_tup (pa_cons (pe_bltn (v := .ty "tuple") t1 (g.fx.free "tuple" (by decide)) PyProof.Rows.boot_tuple rfl t3 t2)
    (pa_cons (pe_bltn (v := .ty "list") l1 (g.fx.free "list" (by decide)) PyProof.Rows.boot_list rfl l3 l2) pa_nil))) pa_nil) (noStar_ok hs _ _)) g3 g2 (noStar_ok hs _ _) rfl) fun σ H Q h => ?_
  obtain ⟨p, F, G, r, M, sr, er, h⟩ := h
  have h' : Tk X.K ca (RD X.K) W G p F (((evE P C a r M).bind fun d M => .ok [d] M).bind fun ds M => biV .isSeq ds M) Q := h
  rw [Res.bind_assoc] at h'
  refine ⟨p, F, G, r, M, sr, er, (Tk.bind (rel := RD X.K) h').mono fun v H1 ⟨p1, F1, x, M1, a1, b1, s1, r1, _, h1⟩ => ?_⟩
  have h2 : Tk X.K ca (RD X.K) W G p1 F1 (isV .isSeq x M1) Q := h1
  unfold isV at h2
  cases q : tyD M1 x with
  | none => simp only [q] at h2; exact h2.elim
  | some t =>
    simp only [q] at h2
    refine ⟨by show 2 ≤ sizeLine; decide, fun tp hp => ?_⟩
    have s2 := s1.grow (upd_grow (o := .tup [.ty "tuple", .ty "list"]) hp)
    exact ⟨v, tp, [.ty "tuple", .ty "list"], .type t.name, [.type "tuple", .type "list"], isTy .isSeq t, rfl, upd_same, .cons (.ty _) (.cons (.ty _) .nil), tyD_ok s2 r1 q, kit_seq t, Tk.ok h2 s2 rfl⟩
/-! ### methods of lists -/
theorem me_ty {p : List Addr} {F G H : Hp} {M : Ar} {d : D} {v : V} (s : SR X.K ca p F G M H) (r : RD X.K p F d v) (h : isLst M d = true) : tyV X.K "list" v H := by
  unfold isLst at h
  cases q : lsOf M d with
  | none => simp only [q] at h; cases h
  | some l =>
    obtain ⟨a, vs, e, k1, _⟩ := lsOf_ok s r q
    subst e
    exact .inl ⟨rfl, vs, SqL.of k1⟩
theorem s_me {m : MeK} {name : Str} {id : String} {o a : Ex} {es : List Ex} {o' a' : Expr} {es' : List Expr} {apos cpos : Pos} (slot : Slot "list" name id) (hty : typeOf (.builtin id) = pure (.type "method_descriptor")) (hm : MtM X id (rM X.K ca m))
    (hb : noSuper o' = true) (hl : (apos.endLine == cpos.line) = true) (hn : decide ((a' :: es').length < 30) = true) (hs : (a' :: es').all noStar = true) (ho : SE P ca C X W o o') (ha : SA P ca C X W (a :: es) (a' :: es')) :
    SE P ca C X W (.me m o (a :: es)) (.Call (.Attribute o' name apos) (a' :: es') [] cpos) := by
  have hs' := hs
  simp only [List.all_cons, Bool.and_eq_true] at hs
  refine PE.imp (pe_bm PySem.F.plainAttrs_list slot hty hm ho ha (noSuper_ok hb _ _) ?_ hl (noStar_ok hs.1 _ _) (star_any hs.2)) fun σ H Q h => ?_
  · have e1 : (backTo cpos (starEach (a' :: es') X.env)).all (fun x => !x.1) = true := star_all hs'
    have e2 : backToKw cpos (keywordEach [] X.env) = [] := rfl
    rw [e1, e2]
    simpa using hn
  · obtain ⟨p, F, G, r, M, sr, er, h⟩ := h
    refine ⟨p, F, G, r, M, sr, er, (Tk.bind (rel := RD X.K) h).mono fun v H1 ⟨p1, F1, x, M1, a1, b1, s1, r1, _, h1⟩ => ?_⟩
    obtain ⟨z1, z2⟩ := Tk.okIf h1
    refine ⟨me_ty s1 r1 z1, p1, F1, G, r, M1, s1, er.sub a1 b1, (Tk.bind (rel := RDs X.K) z2).mono fun vs H2 ⟨p2, F2, xs, M2, a2, b2, s2, r2, _, h2⟩ => ?_⟩
    exact ⟨p2, F2, G, M2, x, xs, W, s2, RD.sub a2 b2 x v r1, r2, h2⟩
theorem s_me0 {m : MeK} {name : Str} {id : String} {o : Ex} {o' : Expr} {apos cpos : Pos} (slot : Slot "list" name id) (hty : typeOf (.builtin id) = pure (.type "method_descriptor")) (hm : MtM X id (rM X.K ca m))
    (hb : noSuper o' = true) (hl : (apos.endLine == cpos.line) = true) (ho : SE P ca C X W o o') : SE P ca C X W (.me m o []) (.Call (.Attribute o' name apos) [] [] cpos) := by
  refine PE.imp (pe_bm0 PySem.F.plainAttrs_list slot hty hm ho (noSuper_ok hb _ _) hl) fun σ H Q h => ?_
  obtain ⟨p, F, G, r, M, sr, er, h⟩ := h
  refine ⟨p, F, G, r, M, sr, er, (Tk.bind (rel := RD X.K) h).mono fun v H1 ⟨p1, F1, x, M1, a1, b1, s1, r1, _, h1⟩ => ?_⟩
  obtain ⟨z1, z2⟩ := Tk.okIf h1
  exact ⟨me_ty s1 r1 z1, p1, F1, G, M1, x, [], W, s1, r1, rfl, z2⟩
/-! ### calls -/
theorem call_step (g : Good P fns ca fa fdt C k X N sc W) {m : Md} {f n : Nat} {es : List Ex} {σ : L2.St} {H : Hp} {Q : VK} (hn : es.length = n) (h : TEo X.K ca W (evE P C (.call m f es)) σ H Q) : tCall (spF X.K ca C f n) [] W (TAo X.K ca W (evEs P C es)) σ H Q := by
  obtain ⟨p, F, G, r, M, sr, er, h⟩ := h
  refine ⟨p, F, G, r, M, sr, er, (Tk.bind (rel := RDs X.K) h).mono fun vs H1 ⟨p1, F1, xs, M1, a1, b1, s1, r1, e1, h1⟩ => ?_⟩
  show spF X.K ca C f n (vs ++ []) H1 Q W
  rw [List.append_nil]
  exact callV_ok (by rw [← r1.length, evEs_len e1, hn]) s1 r1 h1
where
  evEs_len : ∀ {es : List Ex} {r : En} {M : Ar} {xs : List D} {M1 : Ar}, evEs P C es r M = .ok xs M1 → xs.length = es.length
    | [], r, M, xs, M1, h => by unfold evEs at h; cases h; rfl
    | e :: es, r, M, xs, M1, h => by
      unfold evEs at h
      cases q : evE P C e r M with
      | ok d M2 =>
        rw [q] at h
        have h2 : (evEs P C es r M2).bind (fun ds M => Res.ok (d :: ds) M) = .ok xs M1 := h
        cases q2 : evEs P C es r M2 with
        | ok ds M3 =>
          rw [q2] at h2
          have h3 : Res.ok (d :: ds) M3 = .ok xs M1 := h2
          cases h3
          rw [List.length_cons, List.length_cons, evEs_len q2]
        | exc _ _ _ => rw [q2] at h2; cases h2
        | stuck => rw [q2] at h2; cases h2
      | exc _ _ _ => rw [q] at h; cases h
      | stuck => rw [q] at h; cases h
theorem s_call (g : Good P fns ca fa fdt C k X N sc W) {m : Md} {f : Nat} {fn : Fn} {x : Str} {a : Ex} {es : List Ex} {a' : Expr} {es' : List Expr} {pp pos : Pos} (hf : fns f = some fn) (hn : decide ((a :: es).length = fn.np) = true) (hx : (f, x) ∈ P.gname) (hg : glB sc x = true)
    (hs : (a' :: es').all noStar = true) (ha : SA P ca C X W (a :: es) (a' :: es')) : SE P ca C X W (.call m f (a :: es)) (.Call (.Name x pp) (a' :: es') [] pos) := by
  obtain ⟨g1, g2, g3⟩ := g.gl hg
  obtain ⟨m1, m2⟩ := g.fx.gnm f x hx
  simp only [List.all_cons, Bool.and_eq_true] at hs
  exact PE.imp (pe_call (g.fns f fn hf) (g.room.mono (Nat.le_succ _)) g1 m1 m2 (g.fx.bnd f fn hf) .nil g.passes ha g2 (noStar_ok hs.1 _ _) (star_any hs.2)) fun σ H Q h => call_step g (of_decide_eq_true hn) h
theorem s_call0 (g : Good P fns ca fa fdt C k X N sc W) {m : Md} {f : Nat} {fn : Fn} {x : Str} {pp pos : Pos} (hf : fns f = some fn) (hn : decide (0 = fn.np) = true) (hx : (f, x) ∈ P.gname) (hg : glB sc x = true) : SE P ca C X W (.call m f []) (.Call (.Name x pp) [] [] pos) := by
  obtain ⟨g1, g2, g3⟩ := g.gl hg
  obtain ⟨m1, m2⟩ := g.fx.gnm f x hx
  refine PE.imp (pe_call0 (g.fns f fn hf) (g.room.mono (Nat.le_succ _)) g1 m1 m2 (g.fx.bnd f fn hf) .nil g.passes g2) fun σ H Q h => ?_
  obtain ⟨p, F, G, r, M, sr, er, h⟩ := h
  exact callV_ok (of_decide_eq_true hn) sr (show RDs X.K p F [] [] from rfl) h
theorem methB_ok {p : List Addr} {F G H : Hp} {M : Ar} {d : D} {v : V} {c : Nat} {m : Str} (s : SR X.K ca p F G M H) (r : RD X.K p F d v) (h : methB M c m d = true) : ∃ a dx fs, v = .ref a ∧ H a = some (.ins (ca c) dx fs) ∧ fs.lookup m = none := by
  unfold methB at h
  cases q : objOf M c d with
  | none => simp only [q] at h; cases h
  | some fs =>
    simp only [q] at h
    obtain ⟨i, a, dx, vs, _, _, e2, _, e4, e5⟩ := objOf_ok s r q
    refine ⟨a, dx, vs, e2, e4, (look_fld (f := m) e5).2 ?_⟩
    cases q2 : fs.lookup m with
    | none => rfl
    | some z => simp only [q2] at h; cases h
theorem s_meth (g : Good P fns ca fa fdt C k X N sc W) {c : Nat} {m : Str} {f : Nat} {fn : Fn} {o a : Ex} {es : List Ex} {o' a' : Expr} {es' : List Expr} {apos pos : Pos} (hf : fns f = some fn) (hn : decide ((a :: es).length + 1 = fn.np) = true) (hx : (c, m, f) ∈ P.meths)
    (hsup : noSuper o' = true) (hs : (a' :: es').all noStar = true)
    (ht : ∃ pl : Sem Bool, eval (.Call (.Attribute o' m apos) (a' :: es') [] pos) X.env = (do
      let ov ← eval o' X.env
      standAt apos.atName
      let (f, first) ← holding [ov] (getMethod ov m pl)
      callWith pos f first (backTo pos (starEach (a' :: es') X.env)) (backToKw pos (keywordEach [] X.env))))
    (ho : SE P ca C X W o o') (ha : SA P ca C X W (a :: es) (a' :: es')) : SE P ca C X W (.meth c m f o (a :: es)) (.Call (.Attribute o' m apos) (a' :: es') [] pos) := by
  obtain ⟨pl, ht⟩ := ht
  obtain ⟨c1, c2⟩ := g.fx.mth c m f hx
  simp only [List.all_cons, Bool.and_eq_true] at hs
  refine PE.imp (pe_meth (pl := pl) ho c1 c2 (g.fns f fn hf) (g.room.mono (Nat.le_succ _)) (g.fx.bnd f fn hf) .nil g.passes ha (noStar_ok hs.1 _ _) (star_any hs.2) ht) fun σ H Q h => ?_
  obtain ⟨p, F, G, r, M, sr, er, h⟩ := h
  refine ⟨p, F, G, r, M, sr, er, (Tk.bind (rel := RD X.K) h).mono fun v H1 ⟨p1, F1, x, M1, a1, b1, s1, r1, _, h1⟩ => ?_⟩
  obtain ⟨z1, z2⟩ := Tk.okIf h1
  obtain ⟨b, dx, fs, e1, e2, e3⟩ := methB_ok s1 r1 z1
  refine ⟨b, dx, fs, e1, e2, e3, p1, F1, G, r, M1, s1, er.sub a1 b1, (Tk.bind (rel := RDs X.K) z2).mono fun vs H2 ⟨p2, F2, xs, M2, a2, b2, s2, r2, q2, h2⟩ => ?_⟩
  refine ⟨?_, p2, F2, G, M2, x :: xs, s2, ⟨v, vs, by rw [List.append_nil], RD.sub a2 b2 x v r1, r2⟩, h2⟩
  have l1 : xs.length = (a :: es).length := call_step.evEs_len q2
  have l2 := of_decide_eq_true hn
  rw [List.append_nil, List.length_cons, ← r2.length, l1]
  exact l2
theorem s_meth0 (g : Good P fns ca fa fdt C k X N sc W) {c : Nat} {m : Str} {f : Nat} {fn : Fn} {o : Ex} {o' : Expr} {apos pos : Pos} (hf : fns f = some fn) (hn : decide (1 = fn.np) = true) (hx : (c, m, f) ∈ P.meths)
    (hsup : noSuper o' = true)
    (ht : ∃ pl : Sem Bool, eval (.Call (.Attribute o' m apos) [] [] pos) X.env = (do
      let ov ← eval o' X.env
      standAt apos.atName
      let (f, first) ← holding [ov] (getMethod ov m pl)
      callWith pos f first (backTo pos (starEach [] X.env)) (backToKw pos (keywordEach [] X.env))))
    (ho : SE P ca C X W o o') : SE P ca C X W (.meth c m f o []) (.Call (.Attribute o' m apos) [] [] pos) := by
  obtain ⟨pl, ht⟩ := ht
  obtain ⟨c1, c2⟩ := g.fx.mth c m f hx
  refine PE.imp (pe_meth0 (pl := pl) ho c1 c2 (g.fns f fn hf) (g.room.mono (Nat.le_succ _)) (g.fx.bnd f fn hf) .nil g.passes ht) fun σ H Q h => ?_
  obtain ⟨p, F, G, r, M, sr, er, h⟩ := h
  refine ⟨p, F, G, r, M, sr, er, (Tk.bind (rel := RD X.K) h).mono fun v H1 ⟨p1, F1, x, M1, a1, b1, s1, r1, _, h1⟩ => ?_⟩
  obtain ⟨z1, z2⟩ := Tk.okIf h1
  obtain ⟨b, dx, fs, e1, e2, e3⟩ := methB_ok s1 r1 z1
  exact ⟨b, dx, fs, e1, e2, e3, of_decide_eq_true hn, p1, F1, G, M1, [x], s1, ⟨v, [], rfl, r1, rfl⟩, z2⟩
theorem make_step (g : Good P fns ca fa fdt C k X N sc W) {c f n : Nat} {es : List Ex} {σ : L2.St} {H : Hp} {Q : VK} (hn : es.length + 1 = n) (h : TEo X.K ca W (evE P C (.make c f es)) σ H Q) : tMake (ca c) (spF X.K ca C f n) [] W (TAo X.K ca W (evEs P C es)) σ H Q := by
  obtain ⟨p, F, G, r, M, sr, er, h⟩ := h
  refine ⟨p, F, G, r, M, sr, er, (Tk.bind (rel := RDs X.K) h).mono fun vs H1 ⟨p1, F1, xs, M1, a1, b1, s1, r1, e1, h1⟩ => ?_⟩
  intro x dx hx hdx hne
  have l1 : xs.length = es.length := call_step.evEs_len e1
  have s2 := s1.grow (upd_grow (o := .own x) hdx)
  have hx2 : upd H1 dx (.own x) x = none := by rw [upd_ne (Ne.symm hne)]; exact hx
  obtain ⟨n1, n2, n3⟩ := s2.newM (m := .obj c []) (o := .ins (ca c) dx []) hx2 ⟨dx, [], upd_same, .nil⟩
  rw [List.append_nil]
  refine ⟨by rw [List.length_cons, ← r1.length, l1]; exact hn, p1 ++ [x], F1, G, M1 ++ [.obj c []], .ref M1.length :: xs, n3, ⟨.ref x, vs, rfl, ⟨x, n2, rfl⟩, RDs.sub n1 (Sub.refl _) xs vs r1⟩, ?_⟩
  have h2 := Tk.pre h1 n1 (Sub.refl F1)
  refine (Tk.bind (rel := RD X.K) h2).mono fun v H2 ⟨p2, F2, y, M2, a2, b2, s3, r3, _, h3⟩ => ?_
  split at h3
  · exact ⟨r3, Tk.ok h3 s3 ⟨x, a2 _ _ n2, rfl⟩⟩
  · exact h3.elim
theorem s_make (g : Good P fns ca fa fdt C k X N sc W) {c f : Nat} {fn : Fn} {x : Str} {a : Ex} {es : List Ex} {a' : Expr} {es' : List Expr} {pp pos : Pos} (hf : fns f = some fn) (hn : decide ((a :: es).length + 1 = fn.np) = true) (hx : (c, x, f) ∈ P.makes) (hg : glB sc x = true)
    (hs : (a' :: es').all noStar = true) (ha : SA P ca C X W (a :: es) (a' :: es')) : SE P ca C X W (.make c f (a :: es)) (.Call (.Name x pp) (a' :: es') [] pos) := by
  obtain ⟨g1, g2, g3⟩ := g.gl hg
  obtain ⟨m1, m2⟩ := g.fx.mak c x f hx
  simp only [List.all_cons, Bool.and_eq_true] at hs
  exact PE.imp (pe_make m2 (g.fns f fn hf) g.room g1 m1 (g.fx.bnd f fn hf) .nil g.passes ha g2 (noStar_ok hs.1 _ _) (star_any hs.2)) fun σ H Q h => make_step g (of_decide_eq_true hn) h
theorem s_make0 (g : Good P fns ca fa fdt C k X N sc W) {c f : Nat} {fn : Fn} {x : Str} {pp pos : Pos} (hf : fns f = some fn) (hn : decide (1 = fn.np) = true) (hx : (c, x, f) ∈ P.makes) (hg : glB sc x = true) : SE P ca C X W (.make c f []) (.Call (.Name x pp) [] [] pos) := by
  obtain ⟨g1, g2, g3⟩ := g.gl hg
  obtain ⟨m1, m2⟩ := g.fx.mak c x f hx
  refine PE.imp (pe_make0 m2 (g.fns f fn hf) g.room g1 m1 (g.fx.bnd f fn hf) .nil g.passes g2) fun σ H Q h => ?_
  obtain ⟨p, F, G, r, M, sr, er, h⟩ := make_step g (n := fn.np) (by have := of_decide_eq_true hn; simpa using this) h
  exact Tk.ok h sr rfl
theorem s_attr (g : Good P fns ca fa fdt C k X N sc W) {c : Nat} {f : Str} {o : Ex} {o' : Expr} {pos : Pos} (hx : (c, f) ∈ P.flds) (hb : noSuper o' = true) (ho : SE P ca C X W o o') : SE P ca C X W (.attr c o f) (.Attribute o' f pos) := by
  obtain ⟨c1, c2⟩ := g.fx.cls c f hx
  refine PE.imp (pe_fld ho (noSuper_ok hb _ _)) fun σ H Q h => ?_
  obtain ⟨p, F, G, r, M, sr, er, h⟩ := h
  refine ⟨p, F, G, r, M, sr, er, (Tk.bind (rel := RD X.K) h).mono fun v H1 ⟨p1, F1, x, M1, a1, b1, s1, r1, _, h1⟩ => ?_⟩
  unfold attrV at h1
  cases q : objOf M1 c x with
  | none => simp only [q] at h1; exact h1.elim
  | some fs =>
    simp only [q] at h1
    obtain ⟨i, a, dx, vs, _, _, e2, _, e4, e5⟩ := objOf_ok s1 r1 q
    cases q2 : fs.lookup f with
    | none => simp only [q2] at h1; exact h1.elim
    | some d =>
      simp only [q2] at h1
      obtain ⟨u, u1, u2⟩ := (look_fld (f := f) e5).1 d q2
      exact ⟨a, ca c, dx, vs, u, e2, e4, c1, c2, u1, Tk.ok h1 s1 u2⟩
end
end Rw
end

section
set_option Elab.async false
set_option linter.all false
set_option maxRecDepth 100000
/-! tables, what a loop walks -/
namespace Rw
open PySem PySem.Spec PyProof.Rows L2
/-! ### the keys of a table of the module -/
def Itb (l : List Str) : It := ⟨fun i _ => i < l.length, fun i H x H' => H' = H ∧ ∃ s, l[i]? = some s ∧ x = .str s, fun i _ => l.length ≤ i⟩
theorem kd_at {P : Program} {w : World} {K : PySem.W.Frag} {h : Heap} {a : Addr} {es : Array DictEntry} {n : Nat} {l : List (Str × T)} (D : KDict K w a es n) (X : K.In h)
    (r : Paired (fun (e : DictEntry) (q : Str × T) => (∃ t, e.key = .str q.1 t) ∧ ∃ v, RelV v e.val ∧ ∀ F, RT K F q.2 v) es.toList l) (nd : (l.map (·.1)).Nodup) :
    ∃ vs : List (Str × Value), vs.map (·.1) = l.map (·.1) ∧ h.DictAt (PySem.strKind P w) a vs n := by
  have pr : ∀ {es : List DictEntry} {l : List (Str × T)}, Paired (fun (e : DictEntry) (q : Str × T) => (∃ t, e.key = .str q.1 t) ∧ ∃ v, RelV v e.val ∧ ∀ F, RT K F q.2 v) es l →
      ∃ vs : List (Str × Value), vs.map (·.1) = l.map (·.1) ∧ PySem.Pairs (PySem.strKind P w) es vs := fun {es l} r => by
    induction r with
    | nil => exact ⟨[], rfl, .nil⟩
    | @cons e q es l h t ih =>
      obtain ⟨vs, e1, e2⟩ := ih
      obtain ⟨⟨t, ht⟩, _⟩ := h
      refine ⟨(q.1, e.val) :: vs, by simp [e1], ?_⟩
      refine .cons ?_ rfl e2
      rw [ht]
      exact PySem.strKind_is P w q.1 t
  obtain ⟨vs, e1, e2⟩ := pr r
  refine ⟨vs, e1, _, es, X _ _ D.at_, ⟨rfl, rfl, rfl⟩, rfl, fun e he => ?_, e2, by rw [e1]; exact nd⟩
  obtain ⟨x, t, q1, q2⟩ := D.lit.all e (Array.mem_toList_iff.mpr he)
  exact ⟨x, by rw [q1]; exact PySem.strKind_is P w x t, q2⟩
theorem turn_kd {P : Program} {w : World} {K : PySem.W.Frag} {tg : Expr} {a : Addr} {es : Array DictEntry} {n : Nat} {l : List (Str × T)} (it : Addr) (D : KDict K w a es n)
    (r : Paired (fun (e : DictEntry) (q : Str × T) => (∃ t, e.key = .str q.1 t) ∧ ∃ v, RelV v e.val ∧ ∀ F, RT K F q.2 v) es.toList l) (nd : (l.map (·.1)).Nodup) :
    Turn P w K tg (Itb (l.map (·.1))) [it] it (fun i h => h.IsKeyIter it a i l.length n) where
  mem := by simp
  obj := fun i h st b hb => by
    have e : b = it := by simpa using hb
    subst e
    obtain ⟨oi, e, c, dd⟩ := st
    exact ⟨oi, e, fun v z => by rw [dd] at z; cases z⟩
  keep := fun i h h' st k => st.at fun oi e => k it (by simp) oi e
  item := by
    intro X hP hw hK hc i pins s σ H E I hf st hg
    subst hP hw hK
    have hi : i < (l.map (·.1)).length := hg
    obtain ⟨f0, f1, f2, f3, f4, f5⟩ := hf it (by simp)
    obtain ⟨vs, e1, hm⟩ := kd_at (P := X.prog) D I.kIn r nd
    have hl : vs.length = l.length := by have := congrArg List.length e1; simpa using this
    have hi2 : i < vs.length := by rw [hl]; simpa using hi
    have hu : vs[i]? = some (vs[i].1, vs[i].2) := List.getElem?_eq_getElem hi2
    rw [← hl] at st
    refine wpAny_pyNext_dict_item st hm hu fun key h' hkey st' sb => ?_
    have I1 : Inv X pins σ H { s with heap := h' } := I.turned (t' := s.toks) (fun b ob hb e => (sb.2 b hb).trans e) f0 f1 f3 f4 f5
    obtain ⟨oi, e, c, dd⟩ := id st'
    obtain ⟨t, ht⟩ := Value.isStrOf_shape (show Value.isStrOf vs[i].1 key = true from hkey)
    refine ⟨key, rfl, go_of (s := { s with heap := h' }) e c dd (by decide) ⟨.str vs[i].1, H, I1, ⟨t, ht⟩, ⟨rfl, vs[i].1, ?_, rfl⟩, ?_, fun b hb => (hf b hb).1⟩⟩
    · rw [← e1, List.getElem?_map, hu] <;> rfl
    · rw [← hl]; exact st'
  done := by
    intro X hP hw hK hc i pins s σ H E I hf st hg
    subst hP hw hK
    have hi : (l.map (·.1)).length ≤ i := hg
    obtain ⟨f0, f1, f2, f3, f4, f5⟩ := hf it (by simp)
    have hsz : es.size = l.length := by have := paired_len r; rw [← this, Array.length_toList]
    exact next_key_end (I.ok.hd hc) st (I.kIn _ _ D.at_) rfl hsz (by simpa using hi) fun h' eb => ⟨rfl, I.turned (t' := s.toks) (fun b ob hb e => eb b ob hb e) f0 f1 f3 f4 f5⟩
  self := fun A i s Q E st h => wpAny_pyIter_keyiter st h
section
variable {X : Cx} {tg : Expr}
theorem pi_kd {x : Str} {pos : Pos} {a : Addr} {es : Array DictEntry} {n : Nat} {l : List (Str × T)} (hg : Gl X x) (hm : X.mg x = some (.ref a)) (hd : (x == ("__debug__" : Str)) = false) (D : KDict X.K X.w a es n)
    (r : Paired (fun (e : DictEntry) (q : Str × T) => (∃ t, e.key = .str q.1 t) ∧ ∃ v, RelV v e.val ∧ ∀ F, RT X.K F q.2 v) es.toList l) (nd : (l.map (·.1)).Nodup) : PI X tg (.Name x pos) (fun _ H R => R (Itb (l.map (·.1))) H) := by
  refine ⟨fun pins s σ H R I q => ?_⟩
  refine ld_glob I hg hm ?_ hd
  have hsz : es.size = l.length := by have := paired_len r; rw [← this, Array.length_toList]
  refine iter_keys D.low (I.kIn _ _ D.at_) ⟨rfl, rfl, rfl⟩ rfl (pi_one (tk := s.toks) I _ (turn_kd _ D r nd) ⟨_, Heap.get?_push_size _ rfl, rfl, ?_⟩ q)
  rw [hsz] <;> rfl
theorem PI.imp {iter : Expr} {t t' : TI} (h : PI X tg iter t) (k : ∀ σ H Q, t' σ H Q → t σ H Q) : PI X tg iter t' := ⟨fun pins s σ H Q I q => h.run pins s σ H Q I (k σ H Q q)⟩
theorem PI.or {iter : Expr} {t t' : TI} (h : PI X tg iter t) (h' : PI X tg iter t') : PI X tg iter (fun σ H R => t σ H R ∨ t' σ H R) := ⟨fun pins s σ H Q I q => by
  rcases q with q | q
  · exact h.run pins s σ H Q I q
  · exact h'.run pins s σ H Q I q⟩
end
/-! ### what a loop walks, as the evaluator sees it -/
section
variable (K : PySem.W.Frag) (ca : Nat → Addr)
def ItF (l : List D) (p : List Addr) (F : Hp) (J : It) : Prop := ∀ (i : Nat) p' F' G M H, Pre p p' → Sub F F' → SR K ca p' F' G M H →
  (l.length ≤ i → J.stop i H) ∧ ∀ d, l[i]? = some d → J.go i H ∧ ∀ x H', J.yld i H x H' → ∃ F'', Sub F' F'' ∧ SR K ca p' F'' G M H' ∧ RD K p' F'' d x
def ItL (i0 : Nat) (p : List Addr) (J : It) : Prop := ∀ (j : Nat) p' F' G M H l, Pre p p' → SR K ca p' F' G M H → M[i0]? = some (.lst l) →
  (l[j]? = none → J.stop j H) ∧ ∀ d, l[j]? = some d → J.go j H ∧ ∀ x H', J.yld j H x H' → H' = H ∧ RD K p' F' d x
def ItR (p : List Addr) (F : Hp) : Itm → It → Prop
  | .fix l, J => ItF K ca l p F J
  | .live i _, J => ItL K ca i p J
def TIo (W : XK) (f : En → Ar → Res Itm) : TI := fun σ H R => ∃ p F G r M, SR K ca p F G M H ∧ ER K p F r σ ∧ Tk K ca (ItR K ca) W G p F (f r M) R
end
section
variable {K : PySem.W.Frag} {ca : Nat → Addr} {p : List Addr} {F : Hp}
theorem itF_list {a : Addr} {l : List D} {vs : List V} (h : ∀ F', Sub F F' → ∀ H, Sub F' H → SqL K H a vs) (inj : ∀ H xs, (∃ G M p' F', SR K ca p' F' G M H ∧ Sub F F') → SqL K H a xs → xs = vs) (r : RDs K p F l vs) : ItF K ca l p F (Itl K a) := by
  intro i p' F' G M H hp hs sr
  have hq := h F' hs H sr.fr
  have len := r.length
  refine ⟨fun hi => ⟨vs, hq, by rw [← len]; exact hi⟩, fun d hd => ?_⟩
  obtain ⟨v, e1, e2⟩ := r.get hd
  refine ⟨⟨vs, v, hq, e1⟩, fun x H' y => ?_⟩
  obtain ⟨y1, y2⟩ := y
  subst y1
  have := y2 vs hq
  rw [e1] at this
  cases this
  exact ⟨F', Sub.refl _, sr, RD.sub hp hs d v e2⟩
theorem itF_tup {a : Addr} {l : List D} {vs : List V} (h : SqT K F a vs) (r : RDs K p F l vs) : ItF K ca l p F (Itt K a) := by
  intro i p' F' G M H hp hs sr
  have hq : SqT K H a vs := sqT_sub (hs.trans sr.fr) h
  have len := r.length
  refine ⟨fun hi => ⟨vs, hq, by rw [← len]; exact hi⟩, fun d hd => ?_⟩
  obtain ⟨v, e1, e2⟩ := r.get hd
  refine ⟨⟨vs, v, hq, e1⟩, fun x H' y => ?_⟩
  obtain ⟨y1, y2⟩ := y
  subst y1
  have := y2 vs hq
  rw [e1] at this
  cases this
  exact ⟨F', Sub.refl _, sr, RD.sub hp hs d v e2⟩
theorem itF_lst {a : Addr} {l : List D} {vs : List V} (h : SqL K F a vs) (r : RDs K p F l vs) : ItF K ca l p F (Itl K a) := by
  intro i p' F' G M H hp hs sr
  have hq : SqL K H a vs := sqL_sub (hs.trans sr.fr) h
  have len := r.length
  refine ⟨fun hi => ⟨vs, hq, by rw [← len]; exact hi⟩, fun d hd => ?_⟩
  obtain ⟨v, e1, e2⟩ := r.get hd
  refine ⟨⟨vs, v, hq, e1⟩, fun x H' y => ?_⟩
  obtain ⟨y1, y2⟩ := y
  subst y1
  have := y2 vs hq
  rw [e1] at this
  cases this
  exact ⟨F', Sub.refl _, sr, RD.sub hp hs d v e2⟩
theorem itL_lst {i0 : Nat} {a : Addr} (h : p[i0]? = some a) : ItL K ca i0 p (Itl K a) := by
  intro j p' F' G M H l hp sr hM
  obtain ⟨vs, k1, k2⟩ := sr.ob i0 a _ (hp _ _ h) hM
  have hq : SqL K H a vs := SqL.of k1
  have len := k2.length
  refine ⟨fun hi => ⟨vs, hq, by rw [← len]; exact List.getElem?_eq_none_iff.mp hi⟩, fun d hd => ?_⟩
  obtain ⟨v, e1, e2⟩ := k2.get hd
  refine ⟨⟨vs, v, hq, e1⟩, fun x H' y => ?_⟩
  obtain ⟨y1, y2⟩ := y
  subst y1
  have := y2 vs hq
  rw [e1] at this
  cases this
  exact ⟨rfl, e2⟩
theorem itF_rng {lo : Int} {n : Nat} : ItF K ca ((List.range n).map fun (k : Nat) => D.t (.int (lo + (k : Int)))) p F (Itr lo n) := by
  intro i p' F' G M H hp hs sr
  refine ⟨fun hi => by simpa [Itr] using hi, fun d hd => ?_⟩
  have hi : i < n := by
    have := (List.getElem?_eq_some_iff.mp hd).1
    simpa using this
  refine ⟨hi, fun x H' y => ?_⟩
  obtain ⟨y1, y2⟩ := y
  subst y1 y2
  rw [List.getElem?_map, List.getElem?_range hi] at hd
  have e : D.t (.int (lo + (i : Int))) = d := by simpa using hd
  subst e
  exact ⟨F', Sub.refl _, sr, rfl⟩
theorem enuL_get : ∀ (l : List D) (k i : Nat), (enuL k l)[i]? = (l[i]?).map fun d => frzT [.t (.int ((k + i : Nat) : Int)), d]
  | [], _, _ => by simp [enuL]
  | d :: l, k, 0 => by simp [enuL]
  | d :: l, k, i + 1 => by
    show (enuL (k + 1) l)[i]? = (l[i]?).map _
    rw [enuL_get l (k + 1) i]
    have : k + 1 + i = k + (i + 1) := by omega
    rw [this]
theorem enuL_len : ∀ (l : List D) (k : Nat), (enuL k l).length = l.length
  | [], _ => rfl
  | d :: l, k => by show (enuL (k + 1) l).length + 1 = l.length + 1; rw [enuL_len]
theorem itF_enu {a : Addr} {l : List D} {vs : List V} (h : SqL K F a vs) (r : RDs K p F l vs) : ItF K ca (enuL 0 l) p F (Ite K a) := by
  intro i p' F' G M H hp hs sr
  have hq : SqL K H a vs := sqL_sub (hs.trans sr.fr) h
  have len := r.length
  refine ⟨fun hi => ⟨vs, hq, by rw [← len]; rw [enuL_len] at hi; exact hi⟩, fun d hd => ?_⟩
  rw [enuL_get] at hd
  cases q : l[i]? with
  | none => rw [q] at hd; cases hd
  | some d0 =>
    rw [q] at hd
    have ed : frzT [.t (.int ((i : Nat) : Int)), d0] = d := by simpa using hd
    subst ed
    obtain ⟨v, e1, e2⟩ := r.get q
    refine ⟨⟨vs, v, hq, e1⟩, fun x H' y => ?_⟩
    obtain ⟨T, x1, ex, nT, eH, y2⟩ := y
    subst ex eH
    have := y2 vs hq
    rw [e1] at this
    cases this
    obtain ⟨n1, n2⟩ := sr.newF (o := .tup [.int (i : Nat), v]) nT
    exact ⟨_, n1, n2, RDs.frzT ⟨_, _, rfl, rfl, ⟨v, [], rfl, RD.sub hp (hs.trans n1) d0 v e2, rfl⟩⟩ (SqT.of upd_same)⟩
theorem itF_tab {l : List Str} : ItF K ca (l.map fun x => D.t (.str x)) p F (Itb l) := by
  intro i p' F' G M H hp hs sr
  refine ⟨fun hi => by simpa [Itb] using hi, fun d hd => ?_⟩
  have hi : i < l.length := by
    have := (List.getElem?_eq_some_iff.mp hd).1
    simpa using this
  refine ⟨hi, fun x H' y => ?_⟩
  obtain ⟨y1, s, y2, y3⟩ := y
  subst y1 y3
  rw [List.getElem?_map, y2] at hd
  have e : D.t (.str s) = d := by simpa using hd
  subst e
  exact ⟨F', Sub.refl _, sr, rfl⟩
end
end Rw
end

section
set_option Elab.async false
set_option linter.all false
set_option maxRecDepth 100000
/-! method calls' trees; sources; targets; pick; tables; comprehensions -/
namespace Rw
open PySem PySem.Spec PyProof.Rows L2
theorem mc_eq {o : Expr} {m : Str} {apos pos : Pos} {args : List Expr} {env : Env} (h1 : noSuper o = true) (h2 : args.all noStar = true) (h3 : decide (args.length < 30) = true) (h4 : (apos.endLine == pos.line) = true) :
    ∃ pl : Sem Bool, eval (.Call (.Attribute o m apos) args [] pos) env = (do
      let ov ← eval o env
      standAt apos.atName
      let (f, first) ← holding [ov] (getMethod ov m pl)
      callWith pos f first (backTo pos (starEach args env)) (backToKw pos (keywordEach [] env))) := by
  refine ⟨(do return (← importBound o env).getD true), ?_⟩
  have few : methodCallForm (args.length + ([] : List Keyword).length) (backTo pos (starEach args env)) (backToKw pos (keywordEach [] env)) = true := by
    unfold methodCallForm
    rw [star_all h2]
    have e2 : backToKw pos (keywordEach [] env) = [] := rfl
    rw [e2]
    simpa using h3
  show (do
    let ov ← attributeBase o m env (eval o env)
    standAt apos.atName
    methodCall o m apos pos env ov (args.length + ([] : List Keyword).length) (backTo pos (starEach args env)) (backToKw pos (keywordEach [] env))) = _
  rw [noSuper_ok h1]
  have e : ∀ ov, methodCall o m apos pos env ov (args.length + ([] : List Keyword).length) (backTo pos (starEach args env)) (backToKw pos (keywordEach [] env)) = (do
      let (f, first) ← holding [ov] (getMethod ov m (do return (← importBound o env).getD true))
      callWith pos f first (backTo pos (starEach args env)) (backToKw pos (keywordEach [] env))) := fun ov => by
    unfold methodCall calleeOf methodCallPos
    rw [few, h4]
    rfl
  simp only [e]

section
variable {P : Pg} {fns : Nat → Option Fn} {ca fa : Nat → Addr} {fdt : Nat → FuncData} {C : Cal} {k : Nat} {X : Cx} {N : List Str} {sc : Scope} {W : XK} {tg : Expr}
/-! ### sources -/
abbrev SI (P : Pg) (ca : Nat → Addr) (C : Cal) (X : Cx) (W : XK) (tg : Expr) (x : Sr) (e : Expr) : Prop := PI X tg e (TIo X.K ca W (evSr P C x))
theorem s_seq {a : Ex} {a' : Expr} (ha : SE P ca C X W a a') : SI P ca C X W tg (.seq a) a' := by
  refine PI.imp (PI.or (pi_list ha) (pi_tup ha)) fun σ H R h => ?_
  obtain ⟨p, F, G, r, M, sr, er, h⟩ := h
  have h' : Tk X.K ca (ItR X.K ca) W G p F ((evE P C a r M).bind srSeq) R := h
  have base := Tk.bind (rel := RD X.K) h'
  -- a tuple, or a list
  by_cases ht : ∃ d M1 l, evE P C a r M = .ok d M1 ∧ lsOf M1 d = none ∧ tpOf d = some l
  · obtain ⟨d, M1, l, e1, e2, e3⟩ := ht
    right
    refine ⟨p, F, G, r, M, sr, er, base.mono fun v H1 ⟨p1, F1, x, M1', a1, b1, s1, r1, q1, h1⟩ => ?_⟩
    rw [e1] at q1
    cases q1
    obtain ⟨b, vs, h0, h2, h3⟩ := tpOf_ok s1 r1 e3
    refine ⟨b, h0, ⟨vs, sqT_sub s1.fr h2⟩, ?_⟩
    have e4 : srSeq d M1 = .ok (.fix l) M1 := by
      unfold srSeq
      cases d with
      | ref i => cases e3
      | _ => simp only [sqOf, e2, e3]
    rw [e4] at h1
    exact Tk.ok h1 s1 (itF_tup h2 h3)
  · left
    refine ⟨p, F, G, r, M, sr, er, base.mono fun v H1 ⟨p1, F1, x, M1, a1, b1, s1, r1, q1, h1⟩ => ?_⟩
    cases x with
    | ref i =>
      have h2 : Tk X.K ca (ItR X.K ca) W G p1 F1 (match M1[i]? with | some (.lst l) => .ok (.live i l.length) M1 | _ => .stuck) R := h1
      cases q : M1[i]? with
      | none => simp only [q] at h2; exact h2.elim
      | some o =>
        simp only [q] at h2
        cases o with
        | lst l =>
          obtain ⟨b, k1, k2⟩ := r1
          obtain ⟨vs, k3, k4⟩ := s1.ob i b _ k1 q
          exact ⟨b, k2, ⟨vs, SqL.of k3⟩, Tk.ok h2 s1 (itL_lst k1)⟩
        | _ => exact h2.elim
    | t y =>
      have h2 : Tk X.K ca (ItR X.K ca) W G p1 F1 (match sqOf M1 (.t y) with | some l => .ok (.fix l) M1 | none => .stuck) R := h1
      cases y with
      | lst m =>
        obtain ⟨b, vs, k1, k2, k3⟩ := r1
        exact ⟨b, k1, ⟨vs, SqL.of (s1.fr _ _ k2)⟩, Tk.ok (show Tk X.K ca (ItR X.K ca) W G p1 F1 (.ok (.fix (m.map .t)) M1) R from h2) s1 (itF_lst (SqL.of k2) (RTs.toD k3))⟩
      | scr m =>
        obtain ⟨b, k1, k2⟩ := r1
        exact ⟨b, k1, ⟨_, sqL_sub s1.fr k2⟩, Tk.ok (show Tk X.K ca (ItR X.K ca) W G p1 F1 (.ok (.fix (m.map fun i => D.t (.int i))) M1) R from h2) s1 (itF_lst k2 (ints_RDs m))⟩
      | tup m => exact absurd ⟨_, _, _, q1, rfl, rfl⟩ ht
      | _ => exact h2.elim
    | tup m => exact absurd ⟨_, _, _, q1, rfl, rfl⟩ ht
    | lst m =>
      obtain ⟨b, vs, k1, k2, k3⟩ := r1
      exact ⟨b, k1, ⟨vs, SqL.of (s1.fr _ _ k2)⟩, Tk.ok (show Tk X.K ca (ItR X.K ca) W G p1 F1 (.ok (.fix m) M1) R from h1) s1 (itF_lst (SqL.of k2) k3)⟩
theorem small_ok {i : Int} (h : small i = true) : -(2 ^ 62) ≤ i ∧ i < 2 ^ 62 := by
  unfold small at h
  simpa using h
theorem s_rng1 (g : Good P fns ca fa fdt C k X N sc W) {a : Ex} {a' : Expr} {pp pos : Pos} (hg : glB sc "range" = true) (hs : noStar a' = true) (ha : SE P ca C X W a a') : SI P ca C X W tg (.rng [a]) (.Call (.Name "range" pp) [a'] [] pos) := by
  obtain ⟨g1, g2, g3⟩ := g.gl hg
  refine PI.imp (pi_range1 g1 (g.fx.free "range" (by decide)) (s_cons hs ha s_nil) (noStar_ok hs _ _)) fun σ H R h => ?_
  obtain ⟨p, F, G, r, M, sr, er, h⟩ := h
  refine ⟨p, F, G, r, M, sr, er, (Tk.bind (rel := RDs X.K) (show Tk X.K ca (ItR X.K ca) W G p F ((evEs P C [a] r M).bind srRng) R from h)).mono fun vs H1 ⟨p1, F1, xs, M1, a1, b1, s1, r1, q1, h1⟩ => ?_⟩
  have hl := call_step.evEs_len q1
  match xs, hl with
  | [x], _ =>
    obtain ⟨v, rfl, k1⟩ := one_of r1
    cases x with
    | t y =>
      cases y with
      | int j =>
        obtain ⟨z1, z2⟩ := Tk.okIf h1
        obtain ⟨z3, z4⟩ := small_ok z1
        have ev : v = .int j := k1
        subst ev
        refine ⟨j, rfl, z3, z4, Tk.ok z2 s1 ?_⟩
        have : (j - 0).toNat = j.toNat := by simp
        unfold rngL
        rw [this]
        exact itF_rng
      | _ => exact h1.elim
    | _ => exact h1.elim
theorem s_rng2 (g : Good P fns ca fa fdt C k X N sc W) {a b : Ex} {a' b' : Expr} {pp pos : Pos} (hg : glB sc "range" = true) (hs : noStar a' = true) (hs2 : noStar b' = true) (ha : SE P ca C X W a a') (hb : SE P ca C X W b b') : SI P ca C X W tg (.rng [a, b]) (.Call (.Name "range" pp) [a', b'] [] pos) := by
  obtain ⟨g1, g2, g3⟩ := g.gl hg
  refine PI.imp (pi_range2 g1 (g.fx.free "range" (by decide)) (s_cons hs ha (s_cons hs2 hb s_nil)) (by rw [noStar_ok hs, noStar_ok hs2]; rfl) (noStar_ok hs2 _ _)) fun σ H R h => ?_
  obtain ⟨p, F, G, r, M, sr, er, h⟩ := h
  refine ⟨p, F, G, r, M, sr, er, (Tk.bind (rel := RDs X.K) (show Tk X.K ca (ItR X.K ca) W G p F ((evEs P C [a, b] r M).bind srRng) R from h)).mono fun vs H1 ⟨p1, F1, xs, M1, a1, b1, s1, r1, q1, h1⟩ => ?_⟩
  have hl := call_step.evEs_len q1
  match xs, hl with
  | [x, y], _ =>
    obtain ⟨v, w, rfl, k1, k2⟩ := two_of r1
    have hh : ∃ i j, x = .t (.int i) ∧ y = .t (.int j) := by
      unfold srRng at h1
      split at h1
      · rename_i heq; cases heq
      · rename_i i j heq
        cases heq
        exact ⟨i, j, rfl, rfl⟩
      · exact h1.elim
    obtain ⟨i, j, rfl, rfl⟩ := hh
    obtain ⟨z1, z2⟩ := Tk.okIf h1
    obtain ⟨z3, z4⟩ := Bool.and_eq_true_iff.mp z1
    obtain ⟨y1, y2⟩ := small_ok z3
    obtain ⟨y3, y4⟩ := small_ok z4
    have ev : v = .int i := k1
    have ew : w = .int j := k2
    subst ev ew
    exact ⟨i, j, rfl, ⟨y1, y2, y3, y4⟩, Tk.ok z2 s1 itF_rng⟩
theorem s_enu (g : Good P fns ca fa fdt C k X N sc W) {a : Ex} {a' : Expr} {pp pos tpos : Pos} {elts : List Expr} {kk : Nat} (hg : glB sc "enumerate" = true) (hs : noStar a' = true) (ha : SE P ca C X W a a') : SI P ca C X W (.Tuple elts kk tpos) (.enu a) (.Call (.Name "enumerate" pp) [a'] [] pos) := by
  obtain ⟨g1, g2, g3⟩ := g.gl hg
  refine PI.imp (pi_enum g1 (g.fx.free "enumerate" (by decide)) (s_cons hs ha s_nil) (noStar_ok hs _ _)) fun σ H R h => ?_
  obtain ⟨p, F, G, r, M, sr, er, h⟩ := h
  have h0 : Tk X.K ca (ItR X.K ca) W G p F ((evE P C a r M).bind srEnu) R := h
  refine ⟨p, F, G, r, M, sr, er, ?_⟩
  show Tk X.K ca (RDs X.K) W G p F ((evE P C a r M).bind fun d M => .ok [d] M) _
  have fin := (Tk.bind (rel := RD X.K) h0)
  cases q : evE P C a r M with
  | stuck => rw [q] at fin; exact fin
  | exc c fs M1 => rw [q] at fin; exact fin
  | ok x M1 =>
    intro p1 F1 H1 vs a1 b1 s1 r1
    obtain ⟨v, rfl, k1⟩ := one_of r1
    rw [q] at h0
    have h1 : Tk X.K ca (ItR X.K ca) W G p1 F1 (srEnu x M1) R := Tk.pre h0 a1 b1
    cases x with
    | ref i => exact h1.elim
    | t y =>
      cases y with
      | lst m =>
        obtain ⟨b, ws, k1, k2, k3⟩ := k1
        exact ⟨b, ws, by rw [k1], SqL.of (s1.fr _ _ k2), Tk.ok (show Tk X.K ca (ItR X.K ca) W G p1 F1 (.ok (.fix (enuL 0 (m.map .t))) M1) R from h1) s1 (itF_enu (SqL.of k2) (RTs.toD k3))⟩
      | _ => exact h1.elim
    | tup m => exact h1.elim
    | lst m =>
      obtain ⟨b, ws, k1, k2, k3⟩ := k1
      exact ⟨b, ws, by rw [k1], SqL.of (s1.fr _ _ k2), Tk.ok (show Tk X.K ca (ItR X.K ca) W G p1 F1 (.ok (.fix (enuL 0 m)) M1) R from h1) s1 (itF_enu (SqL.of k2) k3)⟩
theorem s_tab (g : Good P fns ca fa fdt C k X N sc W) {n : Nat} {x : Str} {l : List (Str × T)} {pos : Pos} (h1 : P.tabs[n]? = some (x, l)) (nd : (l.map (·.1)).Nodup) (hg : glB sc x = true) : SI P ca C X W tg (.tab n) (.Name x pos) := by
  obtain ⟨g1, g2, g3⟩ := g.gl hg
  obtain ⟨a, es, m, t1, t2, t3⟩ := g.fx.tab n x l h1
  refine PI.imp (pi_kd g1 t1 g2 t2 t3 nd) fun σ H R h => ?_
  obtain ⟨p, F, G, r, M, sr, er, h⟩ := h
  unfold evSr at h
  simp only [h1] at h
  refine Tk.ok h sr ?_
  have : (l.map fun p : Str × T => D.t (.str p.1)) = (l.map (·.1)).map fun x => D.t (.str x) := by rw [List.map_map]; rfl
  rw [this]
  exact itF_tab
/-! ### tables by key -/
theorem tab_find {a : Addr} {es : Array DictEntry} {m : Nat} {l : List (Str × T)} {K : PySem.W.Frag} (t2 : KDict K X.w a es m) (t3 : Paired (fun (e : DictEntry) (q : Str × T) => (∃ t, e.key = .str q.1 t) ∧ ∃ v, RelV v e.val ∧ ∀ F, RT K F q.2 v) es.toList l) (s : Str) :
    (l.lookup s = none → PySem.W.nsIn K a s = some none) ∧ ∀ t, l.lookup s = some t → ∃ u v, PySem.W.nsIn K a s = some (some u) ∧ RelV v u ∧ ∀ F, RT K F t v := by
  have key : ∀ {es : List DictEntry} {l : List (Str × T)}, Paired (fun (e : DictEntry) (q : Str × T) => (∃ t, e.key = .str q.1 t) ∧ ∃ v, RelV v e.val ∧ ∀ F, RT K F q.2 v) es l →
      (es.any (·.refKey) = false) ∧ (l.lookup s = none → es.find? (·.key.isStr s) = none) ∧ ∀ t, l.lookup s = some t → ∃ e v, es.find? (·.key.isStr s) = some e ∧ RelV v e.val ∧ ∀ F, RT K F t v := fun {es l} r => by
    induction r with
    | nil => exact ⟨rfl, fun _ => rfl, fun t h => by cases h⟩
    | @cons e q es l h t ih =>
      obtain ⟨i0, i1, i2⟩ := ih
      obtain ⟨q1, q2⟩ := q
      obtain ⟨⟨tk, hk⟩, v, h2, h3⟩ := h
      have hk : e.key = .str q1 tk := hk
      have ex : e.key.isStr s = decide (q1 = s) := by rw [hk]; rfl
      refine ⟨by rw [List.any_cons, i0]; simp [DictEntry.refKey, hk], ?_⟩
      by_cases hq : q1 = s
      · subst hq
        have f1 : (e :: es).find? (fun e => e.key.isStr q1) = some e := by rw [List.find?_cons, ex]; simp
        have l1 : List.lookup q1 ((q1, q2) :: l) = some q2 := by simp [List.lookup]
        rw [f1, l1]
        exact ⟨fun z => (by cases z), fun t z => ⟨e, v, rfl, h2, (by cases z; exact h3)⟩⟩
      · have f1 : (e :: es).find? (fun e => e.key.isStr s) = es.find? (fun e => e.key.isStr s) := by rw [List.find?_cons, ex]; simp [hq]
        have hb : (s == q1) = false := beq_eq_false_iff_ne.mpr (Ne.symm hq)
        have l1 : List.lookup s ((q1, q2) :: l) = List.lookup s l := by simp only [List.lookup, hb]
        rw [f1, l1]
        exact ⟨i1, i2⟩
  obtain ⟨k0, k1, k2⟩ := key t3
  unfold PySem.W.nsIn
  rw [t2.at_]
  dsimp only
  refine ⟨fun h => ?_, fun t h => ?_⟩
  · rw [k1 h]
    dsimp only
    rw [k0]
    rfl
  · obtain ⟨e, v, e1, e2, e3⟩ := k2 t h
    rw [e1]
    exact ⟨e.val, v, rfl, e2, e3⟩
theorem s_tabIn (g : Good P fns ca fa fdt C k X N sc W) {yes : Bool} {n : Nat} {x : Str} {l : List (Str × T)} {a : Ex} {a' : Expr} {op : CmpOp} {pos pp : Pos} (h1 : P.tabs[n]? = some (x, l)) (hg : glB sc x = true) (ho : op = if yes then .In else .NotIn) (ha : SE P ca C X W a a') : SE P ca C X W (.tabIn yes n a) (.Compare a' [op] [.Name x pp] pos) := by
  obtain ⟨g1, g2, g3⟩ := g.gl hg
  obtain ⟨b, es, m, t1, t2, t3⟩ := g.fx.tab n x l h1
  have down : ∀ σ H Q, TEo X.K ca W (evE P C (.tabIn yes n a)) σ H Q → TEo X.K ca W (evE P C a) σ H fun v H1 => ∃ z r, v = .str z ∧ PySem.W.nsIn X.K b z = some r ∧ Q (.bl (if yes then r.isSome else !r.isSome)) H1 := fun σ H Q h => by
    obtain ⟨p, F, G, r, M, sr, er, h⟩ := h
    refine ⟨p, F, G, r, M, sr, er, (Tk.bind (rel := RD X.K) h).mono fun v H1 ⟨p1, F1, y, M1, a1, b1, s1, r1, _, h1'⟩ => ?_⟩
    simp only [h1] at h1'
    have hs : ∃ s, y = .t (.str s) := by
      unfold tabInV at h1'
      split at h1'
      · exact ⟨_, rfl⟩
      · exact h1'.elim
    obtain ⟨s, rfl⟩ := hs
    obtain ⟨u1, u2⟩ := tab_find t2 t3 s
    have ev : v = .str s := r1
    unfold tabInV at h1'
    cases q : l.lookup s with
    | none =>
      simp only [q] at h1'
      refine ⟨s, none, ev, u1 q, ?_⟩
      have := Tk.ok h1' s1 rfl
      cases yes <;> exact this
    | some t =>
      simp only [q] at h1'
      obtain ⟨u, w, w1, _⟩ := u2 t q
      refine ⟨s, some u, ev, w1, ?_⟩
      have := Tk.ok h1' s1 rfl
      cases yes <;> exact this
  cases yes with
  | true =>
    simp only [if_true] at ho
    subst ho
    refine PE.imp (pe_cmpR (op_in_kd t2) ha (pe_glob (v := .ref b) g1 t1 rfl g2) rfl) fun σ H Q h => ?_
    obtain ⟨p, F, G, r, M, sr, er, h⟩ := down σ H Q h
    exact ⟨p, F, G, r, M, sr, er, h.mono fun v H1 ⟨z, rr, e1, e2, q⟩ => ⟨z, rr, e1, rfl, e2, q⟩⟩
  | false =>
    simp only [Bool.false_eq_true, if_false] at ho
    subst ho
    refine PE.imp (pe_cmpR (op_notIn_kd t2) ha (pe_glob (v := .ref b) g1 t1 rfl g2) rfl) fun σ H Q h => ?_
    obtain ⟨p, F, G, r, M, sr, er, h⟩ := down σ H Q h
    exact ⟨p, F, G, r, M, sr, er, h.mono fun v H1 ⟨z, rr, e1, e2, q⟩ => ⟨z, rr, e1, rfl, e2, q⟩⟩
theorem s_tabInT (g : Good P fns ca fa fdt C k X N sc W) {yes : Bool} {n : Nat} {x : Str} {l : List (Str × T)} {a : Ex} {a' : Expr} {op : CmpOp} {pos pp : Pos} (h1 : P.tabs[n]? = some (x, l)) (hg : glB sc x = true) (ho : op = if yes then .In else .NotIn) (ha : SE P ca C X W a a') : ST P ca C X W (.tabIn yes n a) (.Compare a' [op] [.Name x pp] pos) := by
  obtain ⟨g1, g2, g3⟩ := g.gl hg
  obtain ⟨b, es, m, t1, t2, t3⟩ := g.fx.tab n x l h1
  have down : ∀ σ H Q, TTo X.K ca W (evT P C (.tabIn yes n a)) σ H Q → TEo X.K ca W (evE P C a) σ H fun v H1 => ∃ z r, v = .str z ∧ PySem.W.nsIn X.K b z = some r ∧ Q (if yes then r.isSome else !r.isSome) H1 := fun σ H Q h => by
    obtain ⟨p, F, G, r, M, sr, er, h⟩ := h
    have h' : Tk X.K ca (fun _ _ (a b : Bool) => a = b) W G p F (Res.bind ((evE P C a r M).bind fun x M => match P.tabs[n]? with
      | some (_, l) => tabInV yes l x M
      | none => .stuck) truV) Q := h
    rw [Res.bind_assoc] at h'
    refine ⟨p, F, G, r, M, sr, er, (Tk.bind (rel := RD X.K) h').mono fun v H1 ⟨p1, F1, y, M1, a1, b1, s1, r1, _, h1'⟩ => ?_⟩
    simp only [h1] at h1'
    have hs : ∃ s, y = .t (.str s) := by
      unfold tabInV at h1'
      split at h1'
      · exact ⟨_, rfl⟩
      · exact h1'.elim
    obtain ⟨s, rfl⟩ := hs
    obtain ⟨u1, u2⟩ := tab_find t2 t3 s
    have ev : v = .str s := r1
    unfold tabInV at h1'
    cases q : l.lookup s with
    | none =>
      simp only [q] at h1'
      refine ⟨s, none, ev, u1 q, ?_⟩
      have := Tk.ok (show Tk X.K ca (fun _ _ (a b : Bool) => a = b) W G p1 F1 (.ok (!yes) M1) Q from h1') s1 rfl
      cases yes <;> exact this
    | some t =>
      simp only [q] at h1'
      obtain ⟨u, w, w1, _⟩ := u2 t q
      refine ⟨s, some u, ev, w1, ?_⟩
      have := Tk.ok (show Tk X.K ca (fun _ _ (a b : Bool) => a = b) W G p1 F1 (.ok yes M1) Q from h1') s1 rfl
      cases yes <;> exact this
  cases yes with
  | true =>
    simp only [if_true] at ho
    subst ho
    refine PT.imp (pt_cmpR (op_in_kd t2) ha (pe_glob (v := .ref b) g1 t1 rfl g2) rfl) fun σ H Q h => ?_
    obtain ⟨p, F, G, r, M, sr, er, h⟩ := down σ H Q h
    exact ⟨p, F, G, r, M, sr, er, h.mono fun v H1 ⟨z, rr, e1, e2, q⟩ => ⟨z, rr, e1, rfl, e2, _, rfl, q⟩⟩
  | false =>
    simp only [Bool.false_eq_true, if_false] at ho
    subst ho
    refine PT.imp (pt_cmpR (op_notIn_kd t2) ha (pe_glob (v := .ref b) g1 t1 rfl g2) rfl) fun σ H Q h => ?_
    obtain ⟨p, F, G, r, M, sr, er, h⟩ := down σ H Q h
    exact ⟨p, F, G, r, M, sr, er, h.mono fun v H1 ⟨z, rr, e1, e2, q⟩ => ⟨z, rr, e1, rfl, e2, _, rfl, q⟩⟩
theorem s_tabGet (g : Good P fns ca fa fdt C k X N sc W) {n : Nat} {x : Str} {l : List (Str × T)} {a : Ex} {a' : Expr} {pos pp : Pos} (h1 : P.tabs[n]? = some (x, l)) (hg : glB sc x = true) (hs : noSlice a' = true) (ha : SE P ca C X W a a') : SE P ca C X W (.tabGet n a) (.Subscript (.Name x pp) a' pos) := by
  obtain ⟨g1, g2, g3⟩ := g.gl hg
  obtain ⟨b, es, m, t1, t2, t3⟩ := g.fx.tab n x l h1
  refine PE.imp (t := fun σ H Q => TEo X.K ca W (evE P C a) σ H fun v H1 => ∃ z u v0, v = .str z ∧ PySem.W.nsIn X.K b z = some (some u) ∧ RelV v0 u ∧ Q v0 H1) ⟨fun pins s σ H Q I h => ?_⟩ fun σ H Q h => ?_
  · refine subD_of PySem.F.slot_dict_getitem.lookup (noSlice_ok hs) (ld_glob I g1 t1 ?_ g2)
    refine thn (ha.run pins s σ H _ I h) fun iv s2 ⟨y, H2, I2, ry, z, u, v0, ey, e1, e2, q⟩ => ?_
    subst ey
    exact ⟨kd_type t2 I2, op_item_kd t2 pins s2 σ H2 (.ref b) (.str z) _ iv Q I2 rfl ry ⟨z, u, v0, rfl, rfl, e1, e2, q⟩⟩
  · obtain ⟨p, F, G, r, M, sr, er, h⟩ := h
    refine ⟨p, F, G, r, M, sr, er, (Tk.bind (rel := RD X.K) h).mono fun v H1 ⟨p1, F1, y, M1, a1, b1, s1, r1, _, h1'⟩ => ?_⟩
    simp only [h1] at h1'
    have hs : ∃ s, y = .t (.str s) := by
      unfold tabGetV at h1'
      split at h1'
      · exact ⟨_, rfl⟩
      · exact h1'.elim
    obtain ⟨s, rfl⟩ := hs
    obtain ⟨u1, u2⟩ := tab_find t2 t3 s
    unfold tabGetV at h1'
    cases q : l.lookup s with
    | none => simp only [q] at h1'; exact h1'.elim
    | some t =>
      simp only [q] at h1'
      obtain ⟨u, w, w1, w2, w3⟩ := u2 t q
      exact ⟨s, u, w, r1, w1, w2, Tk.ok h1' s1 (w3 F1)⟩
end
end Rw
end

section
set_option Elab.async false
set_option linter.all false
set_option maxRecDepth 100000
/-! targets, comprehensions, pick -/
namespace Rw
open PySem PySem.Spec PyProof.Rows L2
/-! ### slots -/
def SlE (vs : List Nat) (σ σ' : L2.St) : Prop := σ'.length = σ.length ∧ ∀ i : Nat, i ∉ vs → σ'[i]? = σ[i]?
theorem SlE.trans {vs ws : List Nat} {a b c : L2.St} (h : SlE vs a b) (k : SlE ws b c) : SlE (vs ++ ws) a c :=
  ⟨k.1.trans h.1, fun i hi => (k.2 i fun z => hi (List.mem_append_right _ z)).trans (h.2 i fun z => hi (List.mem_append_left _ z))⟩
theorem wipe_in {σ : L2.St} {i : Nat} : ∀ {vs : List Nat}, i ∈ vs → i < σ.length → (wipe σ vs)[i]? = some none
  | v :: vs, h, hl => by
    unfold wipe
    by_cases e : v = i
    · subst e
      rw [List.getElem?_set_self (by rw [wipe_length]; exact hl)]
    · rw [List.getElem?_set_ne e]
      rcases List.mem_cons.mp h with z | z
      · exact absurd z.symm e
      · exact wipe_in z hl
theorem wipe_eq {σ σ' : L2.St} {vs : List Nat} (h : SlE vs (wipe σ vs) σ') : wipe σ' vs = wipe σ vs := by
  have len : σ'.length = σ.length := by rw [h.1, wipe_length]
  apply List.ext_getElem?
  intro i
  by_cases hi : i ∈ vs
  · by_cases hl : i < σ.length
    · rw [wipe_in hi (by rw [len]; exact hl), wipe_in hi hl]
    · rw [List.getElem?_eq_none (by rw [wipe_length, len]; omega), List.getElem?_eq_none (by rw [wipe_length]; omega)]
  · rw [wipe_out hi, h.2 i hi]
theorem wipeE_length (r : En) : ∀ vs : List Nat, (wipeE r vs).length = r.length
  | [] => rfl
  | v :: vs => by unfold wipeE; rw [List.length_set, wipeE_length r vs]
theorem wipeE_some {r : En} {i : Nat} {d : D} : ∀ {vs : List Nat}, (wipeE r vs)[i]? = some (some d) → r[i]? = some (some d) ∧ i ∉ vs
  | [], h => ⟨h, by simp⟩
  | v :: vs, h => by
    unfold wipeE at h
    by_cases e : v = i
    · subst e
      by_cases hl : v < (wipeE r vs).length
      · rw [List.getElem?_set_self hl] at h; cases h
      · rw [List.getElem?_eq_none (by rw [List.length_set]; omega)] at h; cases h
    · rw [List.getElem?_set_ne e] at h
      obtain ⟨h1, h2⟩ := wipeE_some h
      exact ⟨h1, by simp only [List.mem_cons, not_or]; exact ⟨fun z => e z.symm, h2⟩⟩
section
variable {K : PySem.W.Frag} {p : List Addr} {F : Hp}
theorem ER.wipe {r : En} {σ : L2.St} (h : ER K p F r σ) (vs : List Nat) : ER K p F (wipeE r vs) (L2.wipe σ vs) := by
  refine ⟨by rw [wipeE_length, wipe_length]; exact h.1, fun i d e => ?_⟩
  obtain ⟨e1, e2⟩ := wipeE_some e
  obtain ⟨v, h1, h2⟩ := h.2 i d e1
  exact ⟨v, by rw [wipe_out e2]; exact h1, h2⟩
theorem ER.set {r : En} {σ : L2.St} {i : Nat} {d : D} {v : V} (h : ER K p F r σ) (rd : RD K p F d v) : ER K p F (r.set i (some d)) (σ.set i (some v)) := by
  refine ⟨by rw [List.length_set, List.length_set]; exact h.1, fun j e q => ?_⟩
  by_cases hj : i = j
  · subst hj
    have hl : i < r.length := by
      have := (List.getElem?_eq_some_iff.mp q).1
      simpa using this
    rw [List.getElem?_set_self hl] at q
    cases q
    exact ⟨v, by rw [List.getElem?_set_self (by rw [← h.1]; exact hl)], rd⟩
  · rw [List.getElem?_set_ne hj] at q ⊢
    exact h.2 j e q
end
section
variable (K : PySem.W.Frag) (ca : Nat → Addr)
def TGo (tg : Tg) : TG := fun v σ H Q => ∃ p F G M d r r', SR K ca p F G M H ∧ ER K p F r σ ∧ RD K p F d v ∧ asg tg d M r = some r' ∧ ∀ σ', ER K p F r' σ' → SlE tg.slots σ σ' → Q σ' H
def TGos (ts : List Tg) : TGs := fun vs σ H Q => ∃ p F G M ds r r', SR K ca p F G M H ∧ ER K p F r σ ∧ RDs K p F ds vs ∧ asgs ts ds M r = some r' ∧ ∀ σ', ER K p F r' σ' → SlE (slotsL ts) σ σ' → Q σ' H
end
def locB (sc : Scope) (fb : Str → Bool) (x : Str) : Bool := match sc.names.lookup x with
  | some .local => true
  | some .cell => fb x
  | _ => false
mutual
def chkTg (N : List Str) (sc : Scope) (fb : Str → Bool) : Tg → Expr → Bool
  | .var i, .Name x _ => decide (N[i]? = some x) && locB sc fb x
  | .tup ts, .Tuple es _ _ => chkTgs N sc fb ts es
  | _, _ => false
def chkTgs (N : List Str) (sc : Scope) (fb : Str → Bool) : List Tg → List Expr → Bool
  | [], [] => true
  | t :: ts, e :: es => chkTg N sc fb t e && chkTgs N sc fb ts es
  | _, _ => false
end
section
variable {X : Cx} {ca : Nat → Addr} {N : List Str} {sc : Scope} {fb : Str → Bool}
theorem PG.imp {e : Expr} {t t' : TG} (h : PG X e t) (k : ∀ v σ H Q, t' v σ H Q → t v σ H Q) : PG X e t' := ⟨fun pins s σ H v u Q I r q => h.run pins s σ H v u Q I r (k v σ H Q q)⟩
theorem PGs.imp {e : List Expr} {t t' : TGs} (h : PGs X e t) (k : ∀ v σ H Q, t' v σ H Q → t v σ H Q) : PGs X e t' := ⟨fun pins s σ H v u Q I r q => h.run pins s σ H v u Q I r (k v σ H Q q)⟩
theorem PG.or {e : Expr} {t t' : TG} (h : PG X e t) (h' : PG X e t') : PG X e (fun v σ H Q => t v σ H Q ∨ t' v σ H Q) := ⟨fun pins s σ H v u Q I r q => by
  rcases q with q | q
  · exact h.run pins s σ H v u Q I r q
  · exact h'.run pins s σ H v u Q I r q⟩
theorem tg_plain : ∀ {t : Tg} {e : Expr} {es : List Expr} {env : Env}, chkTg N sc fb t e = true → assignEach (e :: es) env = (false, assign e env) :: assignEach es env
  | t, e, es, env, h => by
    cases e <;> first | rfl | (cases t <;> cases h)
theorem tgs_len : ∀ {ts : List Tg} {es : List Expr} {env : Env}, chkTgs N sc fb ts es = true → (assignEach es env).length = ts.length ∧ (assignEach es env).findIdx? (·.1) = none
  | [], [], _, _ => ⟨rfl, rfl⟩
  | t :: ts, e :: es, env, h => by
    have h' : chkTg N sc fb t e = true ∧ chkTgs N sc fb ts es = true := by simpa [chkTgs] using h
    obtain ⟨i1, i2⟩ := tgs_len (env := env) h'.2
    rw [tg_plain h'.1]
    refine ⟨by rw [List.length_cons, List.length_cons, i1], ?_⟩
    rw [List.findIdx?_cons, i2]
    rfl
  | [], _ :: _, _, h => by cases h
  | _ :: _, [], _, h => by cases h
theorem asgs_len : ∀ {ts : List Tg} {ds : List D} {M : Ar} {r r' : En}, asgs ts ds M r = some r' → ds.length = ts.length
  | [], [], _, _, _, _ => rfl
  | [], _ :: _, _, _, _, h => by unfold asgs at h; cases h
  | _ :: _, [], _, _, _, h => by unfold asgs at h; cases h
  | t :: ts, d :: ds, M, r, r', h => by
    unfold asgs at h
    cases q1 : asg t d M r with
    | none => simp only [q1] at h; cases h
    | some r1 =>
      simp only [q1] at h
      rw [List.length_cons, List.length_cons, asgs_len h]
mutual
theorem s_tg (hN : X.N = N) (nd : N.Nodup) (hsc : X.env.scope = sc) (hc : X.calm = true) (hfn : ∀ x, fb x = true → X.fn x = true) : ∀ (t : Tg) (e : Expr), chkTg N sc fb t e = true → PG X e (TGo X.K ca t)
  | .var i, e, h => by
    cases e with
    | Name x pos =>
      have h' : N[i]? = some x ∧ locB sc fb x = true := by simpa [chkTg] using h
      obtain ⟨h1, h2⟩ := h'
      have hl : (sc.names.lookup x = some .local) ∨ (sc.names.lookup x = some .cell ∧ fb x = true) := by
        unfold locB at h2
        split at h2
        · exact .inl (by assumption)
        · exact .inr ⟨by assumption, h2⟩
        · cases h2
      refine PG.imp (pg_name (i := i) (by rw [hN]; exact nd) (by rw [hN]; exact h1) ?_ ?_) fun v σ H Q q => ?_
      · unfold L2.Loc
        rw [hsc]
        rcases hl with z | z
        · exact .inl z
        · exact .inr z.1
      · rw [hsc]
        rcases hl with z | z
        · exact .inr z
        · exact .inl (hfn x z.2)
      · obtain ⟨p, F, G, M, d, r, r', sr, er, rd, e1, q⟩ := q
        unfold asg at e1
        split at e1
        · cases e1
          refine q _ (er.set rd) ⟨by rw [List.length_set], fun j hj => ?_⟩
          rw [List.getElem?_set_ne]
          intro z
          exact hj (by simp [Tg.slots, z])
        · cases e1
    | _ => cases h
  | .tup ts, e, h => by
    cases e with
    | Tuple es j pos =>
      have h' : chkTgs N sc fb ts es = true := h
      obtain ⟨l1, l2⟩ := tgs_len (env := X.env) h'
      have ih := s_tgs hN nd hsc hc hfn ts es h'
      refine PG.imp (PG.or (pg_tup hc ih l1 l2) (pg_lst hc ih l1 l2)) fun v σ H Q q => ?_
      obtain ⟨p, F, G, M, d, r, r', sr, er, rd, e1, q⟩ := q
      unfold asg at e1
      cases q1 : tpOf d with
      | some l =>
        simp only [q1] at e1
        obtain ⟨a, vs, k1, k2, k3⟩ := tpOf_ok sr rd q1
        refine .inl ⟨a, vs, k1, sqT_sub sr.fr k2, ?_, p, F, G, M, l, r, r', sr, er, k3, e1, q⟩
        rw [← k3.length]; exact asgs_len e1
      | none =>
        simp only [q1] at e1
        cases q2 : lsOf M d with
        | none => simp only [q2] at e1; cases e1
        | some l =>
          simp only [q2] at e1
          obtain ⟨a, vs, k1, k2, k3⟩ := lsOf_ok sr rd q2
          refine .inr ⟨a, vs, k1, SqL.of k2, ?_, p, F, G, M, l, r, r', sr, er, k3, e1, q⟩
          rw [← k3.length]; exact asgs_len e1
    | _ => cases h
theorem s_tgs (hN : X.N = N) (nd : N.Nodup) (hsc : X.env.scope = sc) (hc : X.calm = true) (hfn : ∀ x, fb x = true → X.fn x = true) : ∀ (ts : List Tg) (es : List Expr), chkTgs N sc fb ts es = true → PGs X es (TGos X.K ca ts)
  | [], es, h => by
    cases es with
    | nil =>
      refine PGs.imp pgs_nil fun v σ H Q q => ?_
      obtain ⟨p, F, G, M, ds, r, r', sr, er, rd, e1, q⟩ := q
      cases ds with
      | nil =>
        unfold asgs at e1
        cases e1
        exact ⟨rd, q σ er ⟨rfl, fun _ _ => rfl⟩⟩
      | cons d ds => unfold asgs at e1; cases e1
    | cons e es => cases h
  | t :: ts, es, h => by
    cases es with
    | nil => cases h
    | cons e es =>
      have h' : chkTg N sc fb t e = true ∧ chkTgs N sc fb ts es = true := by simpa [chkTgs] using h
      refine PGs.imp (pgs_cons (s_tg hN nd hsc hc hfn t e h'.1) (s_tgs hN nd hsc hc hfn ts es h'.2) (by rw [tg_plain h'.1]; rfl)) fun vs σ H Q q => ?_
      obtain ⟨p, F, G, M, ds, r, r', sr, er, rd, e1, q⟩ := q
      cases ds with
      | nil => unfold asgs at e1; cases e1
      | cons d ds =>
        unfold asgs at e1
        cases q1 : asg t d M r with
        | none => simp only [q1] at e1; cases e1
        | some r1 =>
          simp only [q1] at e1
          obtain ⟨v, w, ev, k1, k2⟩ := rd
          refine ⟨v, w, ev, p, F, G, M, d, r, r1, sr, er, k1, q1, fun σ1 er1 sl1 => ?_⟩
          exact ⟨p, F, G, M, ds, r1, r', sr, er1, k2, e1, fun σ2 er2 sl2 => q σ2 er2 (sl1.trans sl2)⟩
end
/-! ### comprehensions -/
def cmpBody (P : Pg) (C : Cal) (tg : Tg) (c : Option Ex) (e : Ex) (r : En) (d : D) (M : Ar) : Res (Option D) := noExc (match asg tg d M (wipeE r tg.slots) with
  | none => .stuck
  | some r' => (evC P C c r' M).bind fun k M => match k with
    | true => (evE P C e r' M).bind fun x M => .ok (some x) M
    | false => .ok none M)
abbrev W0 : XK := fun _ _ _ => False
theorem noExc_tk {K : PySem.W.Frag} {α β γ δ : Type} {rel : List Addr → Hp → α → β → Prop} {rel' : List Addr → Hp → γ → δ → Prop} {p : List Addr} {F G G' : Hp} {W : XK} {r : Res α} {f : α → Ar → Res γ} {Q : δ → Hp → Prop} (hs : Sub G G') (h : Tk K ca rel' W G p F ((noExc r).bind f) Q) :
    Tk K ca rel W0 G' p F r (fun v H' => ∃ p' F' a M', Pre p p' ∧ Sub F F' ∧ SR K ca p' F' G' M' H' ∧ rel p' F' a v ∧ r = .ok a M' ∧ Tk K ca rel' W G p' F' (f a M') Q) := by
  cases r with
  | ok a M =>
    intro p' F' H' v h1 h2 h3 h4
    exact ⟨p', F', a, M, h1, h2, h3, h4, rfl, Tk.pre (show Tk K ca rel' W G p F (f a M) Q from h) h1 h2⟩
  | exc c fs M => exact h.elim
  | stuck => exact h
/-- the list that was the frame's is a new list -/
theorem mkL_frame {K : PySem.W.Frag} {p : List Addr} {F G H : Hp} {M : Ar} {W : XK} {mu : Bool} {l : List D} {vs : List V} {Q : VK} {a : Addr} (nG : G a = none) (s : SR K ca p F (upd G a (.lst vs)) M H) (r : RDs K p F l vs) (h : Tk K ca (RD K) W G p F (mkL mu l M) Q) : Q (.ref a) H := by
  have ha : H a = some (.lst vs) := s.gr _ _ upd_same
  have nf : F a = none := by
    rcases s.fg a with h | h
    · exact h
    · rw [upd_same] at h; cases h
  have np : a ∉ p := fun h => by have := s.pg a h; rw [upd_same] at this; cases this
  have s0 := s.lessG (sub_upd (o := .lst vs) nG)
  cases mu with
  | true =>
    refine h (p ++ [a]) F H (.ref a) (Pre.app p a) (Sub.refl _) ?_ ⟨a, by rw [← s.len]; simp, rfl⟩
    refine ⟨by simp [s.len], List.nodup_append.mpr ⟨s.nd, by simp, fun x hx y hy => ?_⟩, s0.fr, s0.gr, s0.fg, fun b hb => ?_, fun b hb => ?_, fun i b u e1 e2 => ?_⟩
    · have : y = a := by simpa using hy
      subst this
      exact fun e => np (e ▸ hx)
    · rcases List.mem_append.mp hb with h | h
      · exact s.pf b h
      · have : b = a := by simpa using h
        subst this; exact nf
    · rcases List.mem_append.mp hb with h | h
      · exact s0.pg b h
      · have : b = a := by simpa using h
        subst this; exact nG
    · by_cases hi : i < M.length
      · have e1' : p[i]? = some b := by
          rw [List.getElem?_append_left (by rw [s.len]; exact hi)] at e1; exact e1
        have e2' : M[i]? = some u := by
          rw [List.getElem?_append_left hi] at e2; exact e2
        exact (s.ob i b u e1' e2').sub (Pre.app p a) (Sub.refl _) rfl
      · have hl : i < (M ++ [MO.lst l]).length := (List.getElem?_eq_some_iff.mp e2).1
        have hi' : i = M.length := by simp at hl; omega
        subst hi'
        have e1' : b = a := by
          rw [List.getElem?_append_right (by rw [s.len]; exact Nat.le_refl _), ← s.len] at e1
          simpa using e1.symm
        have e2' : u = .lst l := by
          rw [List.getElem?_append_right (by omega)] at e2
          simpa using e2.symm
        subst e1' e2'
        exact ⟨vs, ha, RDs.sub (Pre.app p b) (Sub.refl _) l vs r⟩
  | false =>
    have sb : Sub F (upd F a (.lst vs)) := sub_upd nf
    refine h p (upd F a (.lst vs)) H (.ref a) (Pre.refl _) sb ?_ (RDs.frzL (RDs.sub (Pre.refl _) sb l vs r) upd_same)
    refine ⟨s.len, s.nd, fun b u e => ?_, s0.gr, fun b => ?_, fun b hb => ?_, s0.pg, fun i b u e1 e2 => (s.ob i b u e1 e2).sub (Pre.refl _) sb rfl⟩
    · by_cases hb : b = a
      · subst hb; rw [upd_same] at e; cases e; exact ha
      · rw [upd_ne hb] at e; exact s.fr b u e
    · by_cases hb : b = a
      · subst hb; exact .inr nG
      · rw [upd_ne hb]; exact s0.fg b
    · have : b ≠ a := fun e => np (e ▸ hb)
      rw [upd_ne this]; exact s.pf b hb
/-- one turn: the target, the test, the element -/
theorem turn_step {P : Pg} {C : Cal} {K : PySem.W.Frag} {W : XK} {tg : Tg} {c : Option Ex} {e : Ex} {r : En} {σ : L2.St} {p : List Addr} {F G G' H' : Hp} {M : Ar} {d : D} {x : V} {f : Option D → Ar → Res (List D)} {g : List D → Ar → Res D} {Q : VK}
    {Y : V → Hp → Prop} {Z : Hp → Prop} (hs : Sub G G') (sr : SR K ca p F G' M H') (er : ER K p F r σ) (rd : RD K p F d x) (h : Tk K ca (RD K) W G p F (((cmpBody P C tg c e r d M).bind f).bind g) Q)
    (hy : ∀ y H2 p' F' M' yd, Pre p p' → Sub F F' → SR K ca p' F' G' M' H2 → RD K p' F' yd y → Tk K ca (RD K) W G p' F' ((f (some yd) M').bind g) Q → Y y H2)
    (hz : ∀ H2 p' F' M', Pre p p' → Sub F F' → SR K ca p' F' G' M' H2 → Tk K ca (RD K) W G p' F' ((f none M').bind g) Q → Z H2) :
    TGo K ca tg x (L2.wipe σ tg.slots) H' fun σ2 H2 => L2.wipe σ2 tg.slots = L2.wipe σ tg.slots ∧ TTo K ca W0 (evC P C c) σ2 H2 fun b H3 => if b = true then TEo K ca W0 (evE P C e) σ2 H3 Y else Z H3 := by
  rw [Res.bind_assoc] at h
  have er0 := er.wipe tg.slots
  unfold cmpBody at h
  cases q : asg tg d M (wipeE r tg.slots) with
  | none => simp only [q] at h; exact h.elim
  | some r' =>
    simp only [q] at h
    refine ⟨p, F, G', M, d, wipeE r tg.slots, r', sr, er0, rd, q, fun σ2 er2 sl => ⟨wipe_eq sl, ?_⟩⟩
    refine ⟨p, F, G', r', M, sr, er2, ?_⟩
    have h1 := noExc_tk (rel := fun (_ : List Addr) (_ : Hp) (a : Option D) (b : Option D) => a = b) hs h
    cases q1 : evC P C c r' M with
    | stuck => simp only [q1] at h1; exact h1
    | exc a b m => simp only [q1] at h; exact h.elim
    | ok k M1 =>
      simp only [q1] at h
      intro p1 F1 H1 b a1 b1 s1 e1
      have e1' : k = b := e1
      subst e1'
      cases k with
      | true =>
        rw [if_pos rfl]
        refine ⟨p1, F1, G', r', M1, s1, er2.sub a1 b1, ?_⟩
        have h2 : Tk K ca (RD K) W G p F ((noExc ((evE P C e r' M1).bind fun x M => .ok (some x) M)).bind fun a M => (f a M).bind g) Q := h
        cases q2 : evE P C e r' M1 with
        | stuck => simp only [q2] at h2; exact h2.elim
        | exc a b m => simp only [q2] at h2; exact h2.elim
        | ok y M2 =>
          simp only [q2] at h2
          intro p2 F2 H2 v a2 b2 s2 r2
          exact hy v H2 p2 F2 M2 y (a1.trans a2) (b1.trans b2) s2 r2 (Tk.pre (show Tk K ca (RD K) W G p F ((f (some y) M2).bind g) Q from h2) (a1.trans a2) (b1.trans b2))
      | false =>
        rw [if_neg (by simp)]
        exact hz H1 p1 F1 M1 a1 b1 s1 (Tk.pre (show Tk K ca (RD K) W G p F ((f none M1).bind g) Q from h) a1 b1)
theorem comp_step {P : Pg} {C : Cal} {W : XK} {mu : Bool} {tg : Tg} {s : Sr} {c : Option Ex} {e : Ex} {σ : L2.St} {H : Hp} {Q : VK} (h : TEo X.K ca W (evE P C (.comp mu tg s c e)) σ H Q) :
    tLc (TIo X.K ca W (evSr P C s)) (TGo X.K ca tg) (TTo X.K ca W0 (evC P C c)) (TEo X.K ca W0 (evE P C e)) tg.slots σ H Q := by
  obtain ⟨p, F, G, r, M, sr, er, h⟩ := h
  have h' : Tk X.K ca (RD X.K) W G p F ((evSr P C s r M).bind fun I M => (cmpItm (cmpBody P C tg c e r) I M).bind fun l M => mkL mu l M) Q := h
  refine ⟨p, F, G, r, M, sr, er, (Tk.bind (rel := ItR X.K ca) h').mono fun J H1 ⟨p1, F1, I, M1, a1, b1, s1, it, _, h1⟩ => ?_⟩
  intro D0 hD
  have er1 := er.sub a1 b1
  obtain ⟨nG1, nG2, nG3⟩ := s1.ne hD
  have sG : ∀ o, Sub G (upd G D0 o) := fun o => sub_upd nG3
  cases I with
  | fix l =>
    have it : ItF X.K ca l p1 F1 J := it
    refine ⟨fun i m H => ∃ p' F' M' acc accd, Pre p1 p' ∧ Sub F1 F' ∧ SR X.K ca p' F' (upd G D0 (.lst acc)) M' H ∧ RDs X.K p' F' accd acc ∧ i ≤ l.length ∧ m = l.length - i ∧ Tk X.K ca (RD X.K) W G p' F' ((cmpF (cmpBody P C tg c e r) (l.drop i) accd M').bind fun l M => mkL mu l M) Q,
      ⟨l.length, p1, F1, M1, [], [], Pre.refl _, Sub.refl _, s1.addG hD, rfl, Nat.zero_le _, by simp, h1⟩, ?_⟩
    rintro i m H2 ⟨p', F', M', acc, accd, a2, b2, s2, ra, hi, rfl, h2⟩
    obtain ⟨stop, go⟩ := it i p' F' _ M' H2 a2 b2 s2
    by_cases hl : i < l.length
    · right
      obtain ⟨g1, g2⟩ := go l[i] (List.getElem?_eq_getElem hl)
      rw [List.drop_eq_getElem_cons hl] at h2
      refine ⟨g1, fun H => ∃ p' F' M' acc accd, Pre p1 p' ∧ Sub F1 F' ∧ SR X.K ca p' F' (upd G D0 (.lst acc)) M' H ∧ RDs X.K p' F' accd acc ∧ Tk X.K ca (RD X.K) W G p' F' ((cmpF (cmpBody P C tg c e r) (l.drop (i + 1)) accd M').bind fun l M => mkL mu l M) Q,
        fun H' ⟨p3, F3, M3, acc3, accd3, z1, z2, z3, z4, z5⟩ => ⟨l.length - (i + 1), by omega, p3, F3, M3, acc3, accd3, z1, z2, z3, z4, hl, rfl, z5⟩, fun x H' y => ?_⟩
      obtain ⟨F3, c1, c2, c3⟩ := g2 x H' y
      have h3 : Tk X.K ca (RD X.K) W G p' F3 (((cmpBody P C tg c e r l[i] M').bind fun o M => match o with
        | none => cmpF (cmpBody P C tg c e r) (l.drop (i + 1)) accd M
        | some x => okIf (decide (accd.length < line)) (cmpF (cmpBody P C tg c e r) (l.drop (i + 1)) (accd ++ [x]) M)).bind fun l M => mkL mu l M) Q := Tk.pre h2 (Pre.refl _) c1
      refine turn_step (sG _) c2 (er1.sub a2 (b2.trans c1)) c3 h3 (fun y H3 p4 F4 M4 yd x1 x2 x3 x4 x5 => ?_) (fun H3 p4 F4 M4 x1 x2 x3 x5 => ?_)
      · have x6 : (okIf (decide (accd.length < line)) (cmpF (cmpBody P C tg c e r) (l.drop (i + 1)) (accd ++ [yd]) M4)) = _ := rfl
        cases q : decide (accd.length < line) with
        | false => simp only [q] at x5; exact x5.elim
        | true =>
          simp only [q] at x5
          have lt := of_decide_eq_true q
          have ra4 := RDs.sub x1 (c1.trans x2) accd acc ra
          rw [ra4.length, line_eq] at lt
          refine ⟨acc, x3.gr _ _ upd_same, lt, p4, F4, M4, acc ++ [y], accd ++ [yd], a2.trans x1, b2.trans (c1.trans x2), x3.setG, ra4.app (RDs.one x4), x5⟩
      · exact ⟨p4, F4, M4, acc, accd, a2.trans x1, b2.trans (c1.trans x2), x3, RDs.sub x1 (c1.trans x2) accd acc ra, x5⟩
    · left
      have ei : i = l.length := by omega
      refine ⟨stop (by omega), ?_⟩
      rw [ei, List.drop_length] at h2
      have h3 : Tk X.K ca (RD X.K) W G p' F' (mkL mu accd M') Q := h2
      -- the list at D0 leaves the frame
      exact mkL_frame nG3 s2 ra h3
  | live i0 n =>
    have it : ItL X.K ca i0 p1 J := it
    refine ⟨fun j m H => ∃ p' F' M' acc accd, Pre p1 p' ∧ Sub F1 F' ∧ SR X.K ca p' F' (upd G D0 (.lst acc)) M' H ∧ RDs X.K p' F' accd acc ∧ Tk X.K ca (RD X.K) W G p' F' ((cmpL (cmpBody P C tg c e r) i0 m j accd M').bind fun l M => mkL mu l M) Q,
      ⟨n + 1, p1, F1, M1, [], [], Pre.refl _, Sub.refl _, s1.addG hD, rfl, h1⟩, ?_⟩
    rintro j m H2 ⟨p', F', M', acc, accd, a2, b2, s2, ra, h2⟩
    cases m with
    | zero => exact h2.elim
    | succ m =>
      unfold cmpL at h2
      cases q0 : M'[i0]? with
      | none => simp only [q0] at h2; exact h2.elim
      | some ob =>
        simp only [q0] at h2
        cases ob with
        | lst l =>
          simp only at h2
          obtain ⟨stop, go⟩ := it j p' F' _ M' H2 l a2 s2 q0
          cases q1 : l[j]? with
          | none =>
            simp only [q1] at h2
            exact .inl ⟨stop q1, mkL_frame nG3 s2 ra h2⟩
          | some d =>
            simp only [q1] at h2
            right
            obtain ⟨g1, g2⟩ := go d q1
            refine ⟨g1, fun H => ∃ p' F' M' acc accd, Pre p1 p' ∧ Sub F1 F' ∧ SR X.K ca p' F' (upd G D0 (.lst acc)) M' H ∧ RDs X.K p' F' accd acc ∧ Tk X.K ca (RD X.K) W G p' F' ((cmpL (cmpBody P C tg c e r) i0 m (j + 1) accd M').bind fun l M => mkL mu l M) Q,
              fun H' z => ⟨m, Nat.lt_succ_self _, z⟩, fun x H' y => ?_⟩
            obtain ⟨eH, c3⟩ := g2 x H' y
            subst eH
            refine turn_step (sG _) s2 (er1.sub a2 b2) c3 h2 (fun y H3 p4 F4 M4 yd x1 x2 x3 x4 x5 => ?_) (fun H3 p4 F4 M4 x1 x2 x3 x5 => ?_)
            · cases q : decide (accd.length < line) with
              | false => simp only [q] at x5; exact x5.elim
              | true =>
                simp only [q] at x5
                have lt := of_decide_eq_true q
                have ra4 := RDs.sub x1 x2 accd acc ra
                rw [ra4.length, line_eq] at lt
                exact ⟨acc, x3.gr _ _ upd_same, lt, p4, F4, M4, acc ++ [y], accd ++ [yd], a2.trans x1, b2.trans x2, x3.setG, ra4.app (RDs.one x4), x5⟩
            · exact ⟨p4, F4, M4, acc, accd, a2.trans x1, b2.trans x2, x3, RDs.sub x1 x2 accd acc ra, x5⟩
        | _ => exact h2.elim
end
end Rw
end

section
set_option Elab.async false
set_option linter.all false
set_option maxRecDepth 100000
/-! pick; blocks; the checker of expressions and its soundness -/
namespace Rw
open PySem PySem.Spec PyProof.Rows L2
section
variable {P : Pg} {fns : Nat → Option Fn} {ca fa : Nat → Addr} {fdt : Nat → FuncData} {C : Cal} {k : Nat} {X : Cx} {N : List Str} {sc : Scope} {W : XK}
def trsOf (P : Pg) (ca : Nat → Addr) (C : Cal) (X : Cx) (W : XK) : List Str → List Ex → List (TE × TE)
  | s :: ks, e :: es => (tC (.str s), TEo X.K ca W (evE P C e)) :: trsOf P ca C X W ks es
  | _, _ => []
def pairsV (ks : List Str) (vs : List V) : List (Key × V) := (ks.zip vs).map fun q => (Sum.inr q.1, q.2)
theorem pairs_step : ∀ (ks : List Str) (es : List Ex) (σ : L2.St) (H : Hp) (Q : List (V × V) → Hp → Prop), ks.length = es.length →
    TAo X.K ca W (evEs P C es) σ H (fun vs H1 => Q ((pairsV ks vs).map fun kv => (kV kv.1, kv.2)) H1) → tPairs (trsOf P ca C X W ks es) σ H Q
  | [], [], σ, H, Q, _, h => by
    obtain ⟨p, F, G, r, M, sr, er, h⟩ := h
    exact Tk.ok (v := ([] : List V)) h sr (show RDs X.K p F [] [] from rfl)
  | s :: ks, e :: es, σ, H, Q, hl, h => by
    obtain ⟨p, F, G, r, M, sr, er, h⟩ := h
    show TEo X.K ca W (evE P C e) σ H fun y H2 => tPairs (trsOf P ca C X W ks es) σ H2 fun ps H3 => Q ((.str s, y) :: ps) H3
    refine ⟨p, F, G, r, M, sr, er, (Tk.bind (rel := RD X.K) h).mono fun v H1 ⟨p1, F1, x, M1, a1, b1, s1, r1, _, h1⟩ => ?_⟩
    refine pairs_step ks es σ H1 _ (by simpa using hl) ⟨p1, F1, G, r, M1, s1, er.sub a1 b1, (Tk.bind (rel := RDs X.K) h1).mono fun vs H2 ⟨p2, F2, xs, M2, a2, b2, s2, r2, _, h2⟩ => ?_⟩
    exact Tk.ok (v := v :: vs) h2 s2 (show RDs X.K p2 F2 (x :: xs) (v :: vs) from ⟨v, vs, rfl, RD.sub a2 b2 x v r1, r2⟩)
  | [], _ :: _, _, _, _, hl, _ => by cases hl
  | _ :: _, [], _, _, _, hl, _ => by cases hl
theorem putK_new {kvs : List (Key × V)} {k : Key} {v : V} (h : k ∉ kvs.map (·.1)) : putK kvs k v = kvs ++ [(k, v)] := by
  unfold putK
  rw [if_neg]
  intro z
  obtain ⟨q, h1, h2⟩ := List.any_eq_true.mp z
  exact h (List.mem_map.mpr ⟨q, h1, of_decide_eq_true h2⟩)
theorem mergeK_new : ∀ (kvs acc : List (Key × V)), (acc.map (·.1) ++ kvs.map (·.1)).Nodup → mergeK acc kvs = acc ++ kvs
  | [], acc, _ => by unfold mergeK; simp
  | (q1, q2) :: kvs, acc, h => by
    have e : mergeK acc ((q1, q2) :: kvs) = mergeK (putK acc q1 q2) kvs := rfl
    have hq : q1 ∉ acc.map (·.1) := fun z => by
      have := List.nodup_append.mp h
      exact this.2.2 q1 z q1 (by simp) rfl
    rw [e, putK_new hq, mergeK_new kvs (acc ++ [(q1, q2)]) (by simpa using h)]
    simp
theorem pairs_find {p : List Addr} {F : Hp} {x : Str} {d : D} : ∀ {ks : List Str} {ds : List D} {vs : List V}, RDs X.K p F ds vs → (ks.zip ds).lookup x = some d → ∃ v, valV (pairsV ks vs) (Sum.inr x) = some v ∧ RD X.K p F d v
  | [], _, _, _, h => by simp at h
  | _ :: _, [], _, _, h => by simp at h
  | s :: ks, e :: ds, _, ⟨v, w, e0, h1, h2⟩, h => by
    subst e0
    by_cases hq : s = x
    · subst hq
      have l1 : List.lookup s ((s :: ks).zip (e :: ds)) = some e := by simp [List.lookup]
      rw [l1] at h
      cases h
      exact ⟨v, valV_pos (p := (Sum.inr s, v)) rfl, h1⟩
    · have hb : (x == s) = false := beq_eq_false_iff_ne.mpr (Ne.symm hq)
      have l1 : List.lookup x ((s :: ks).zip (e :: ds)) = List.lookup x (ks.zip ds) := by simp only [List.zip_cons_cons, List.lookup, hb]
      rw [l1] at h
      obtain ⟨u, u1, u2⟩ := pairs_find h2 h
      exact ⟨u, by rw [show pairsV (s :: ks) (v :: w) = (Sum.inr s, v) :: pairsV ks w from rfl, valV_neg (fun z => hq (Sum.inr.inj z))]; exact u1, u2⟩
theorem s_pick (g : Good P fns ca fa fdt C k X N sc W) {ks : List Str} {es : List Ex} {i : Ex} {keys : List (Option Expr)} {vals : List Expr} {i' : Expr} {pos pd : Pos} (hk : ks.Nodup) (hl : ks.length = es.length) (hl2 : es.length ≤ 15)
    (hp : PPs X pd keys vals (trsOf P ca C X W ks es)) (hall : keys.all (·.isSome) = true) (hkl : keys.length = vals.length) (hk0 : keys ≠ []) (hk15 : keys.length ≤ 15) (hs : noSlice i' = true) (hi : SE P ca C X W i i') :
    SE P ca C X W (.pick ks es i) (.Subscript (.Dict keys vals pd) i' pos) := by
  refine PE.imp (pe_dget (by have := g.hu; omega) (pe_disp hp hall hkl hk0 hk15) hi (noSlice_ok hs)) fun σ H Q h => ?_
  obtain ⟨p, F, G, r, M, sr, er, h⟩ := h
  intro p0 hp0
  obtain ⟨n1, n2, n3⟩ := sr.ne hp0
  have s0 := sr.addG (o := .dK []) hp0
  refine pairs_step ks es σ _ _ hl ⟨p, F, upd G p0 (.dK []), r, M, s0, er, (Tk.bindG (rel := RDs X.K) (sub_upd n3) h).mono fun vs H1 ⟨p1, F1, ds, M1, a1, b1, s1, r1, q1, h1⟩ => ?_⟩
  have len : (pairsV ks vs).length ≤ 15 := by
    unfold pairsV
    rw [List.length_map, List.length_zip]
    omega
  refine ⟨s1.gr _ _ upd_same, pairsV ks vs, rfl, len, ?_⟩
  have l0 : vs.length = ks.length := by rw [← r1.length, call_step.evEs_len q1, hl]
  have ndk : ((pairsV ks vs).map (·.1)).Nodup := by
    unfold pairsV
    rw [List.map_map]
    have e : (ks.zip vs).map ((fun (q : Key × V) => q.1) ∘ fun (q : Str × V) => ((Sum.inr q.1 : Key), q.2)) = ks.map Sum.inr := by
      have : (ks.zip vs).map (·.1) = ks := by rw [List.map_fst_zip]; omega
      conv => rhs; rw [← this]
      rw [List.map_map]
      rfl
    rw [e]
    exact List.Pairwise.map _ (fun a b h z => h (Sum.inr.inj z)) hk
  rw [mergeK_new (pairsV ks vs) [] (by simpa using ndk), List.nil_append]
  have s2 := s1.setG (o' := .dK (pairsV ks vs))
  refine ⟨p1, F1, upd G p0 (.dK (pairsV ks vs)), r, M1, s2, er.sub a1 b1, (Tk.bindG (rel := RD X.K) (sub_upd n3) h1).mono fun y H3 ⟨p3, F3, yd, M3, a3, b3, s3, r3, _, h3⟩ => ?_⟩
  have hx : ∃ x, yd = .t (.str x) := by
    unfold pickV at h3
    split at h3
    · exact ⟨_, rfl⟩
    · exact h3.elim
  obtain ⟨x, rfl⟩ := hx
  unfold pickV at h3
  cases q : (ks.zip ds).lookup x with
  | none => simp only [q] at h3; exact h3.elim
  | some d =>
    simp only [q] at h3
    obtain ⟨v, u1, u2⟩ := pairs_find (RDs.sub a3 b3 ds vs r1) q
    have ey : y = kV (Sum.inr x) := r3
    subst ey
    refine ⟨p0, v, rfl, ?_, Tk.ok h3 (s3.lessG (sub_upd n3)) u2⟩
    rw [← u1]
    exact DGet.k (s3.gr _ _ upd_same)
/-! ### blocks -/
theorem Good.blk (g : Good P fns ca fa fdt C k X N sc W) (s : Shared) (H : Hp) (scope : Scope) (C' : Addr) (cl : List (Str × Addr)) (fp : List Addr) :
    Good P fns ca fa fdt C k (X.blk s H scope (compEnvC scope cl C' X.env) fp) N (relS scope sc) W0 :=
  ⟨g.hN, g.nd, by show relS scope X.env.scope = _; rw [g.hsc], g.calm, g.room, g.fx, g.fns, fun u s' ⟨a, B, sI, pins, σ, H, cls, d, e, I, nb, up, sky, na, os, ag, w⟩ => w⟩
def blkFb (scope : Scope) (x : Str) : Bool := match scope.names.lookup x with
  | some .cell => true
  | _ => false
theorem blkFb_ok {scope : Scope} {x : Str} (h : blkFb scope x = true) : (scope.names.lookup x == some .cell) = true := by
  unfold blkFb at h
  split at h
  · rename_i e; rw [e]; rfl
  · cases h
def noSet : Expr → Bool
  | .Set .. => false
  | _ => true
theorem noSet_ok {e : Expr} (h : noSet e = true) (env : Env) : ∀ x, foldedSetIterable e env x = pure x := by
  intro x
  unfold foldedSetIterable
  cases e <;> first | rfl | cases h
def ownOf (N : List Str) (vs : List Nat) : List (Str × Nat) := vs.filterMap fun i => (N[i]?).map fun x => (x, i)
theorem ownOf_map {N : List Str} : ∀ {vs : List Nat}, vs.all (fun i => decide (i < N.length)) = true → (ownOf N vs).map (·.2) = vs
  | [], _ => rfl
  | v :: vs, h => by
    simp only [List.all_cons, Bool.and_eq_true, decide_eq_true_eq] at h
    unfold ownOf
    rw [List.filterMap_cons, List.getElem?_eq_getElem h.1]
    show v :: (ownOf N vs).map (·.2) = v :: vs
    rw [ownOf_map h.2]
end
/-! ### the checker -/
def noIf : Expr → Bool
  | .IfExp .. => false
  | _ => true
/-- a built-in's name and how many arguments; isinstance: the classes -/
def biB (sc : Scope) (f : BiK) (x : Str) (es : List Expr) : Bool := match f, es with
  | .len, [_] => decide (x = "len")
  | .int, [_] => decide (x = "int")
  | .list _, [_] => decide (x = "list")
  | .tuple, [_] => decide (x = "tuple")
  | .min2, [_, _] => decide (x = "min")
  | .max2, [_, _] => decide (x = "max")
  | .isInt, [_, .Name t _] => decide (x = "isinstance") && decide (t = "int") && glB sc t
  | .isBool, [_, .Name t _] => decide (x = "isinstance") && decide (t = "bool") && glB sc t
  | .isList, [_, .Name t _] => decide (x = "isinstance") && decide (t = "list") && glB sc t
  | .isSeq, [_, .Tuple [.Name t _, .Name u _] _ _] => decide (x = "isinstance") && decide (t = "tuple") && decide (u = "list") && glB sc t && glB sc u
  | _, _ => false
def biArgs (f : BiK) (es : List Expr) : List Expr := match f with
  | .isInt => es.take 1
  | .isBool => es.take 1
  | .isList => es.take 1
  | .isSeq => es.take 1
  | _ => es
def meB (m : MeK) (x : Str) (es : List Expr) : Bool := match m, es with
  | .append, [_] => decide (x = "append")
  | .extend, [_] => decide (x = "extend")
  | .pop, [] => decide (x = "pop")
  | _, _ => false
def chkKs : List Str → List (Option Expr) → Bool
  | [], [] => true
  | k :: ks, some (.Constant (.str x) _ _) :: r => decide (x = k) && chkKs ks r
  | _, _ => false
mutual
def chkE (P : Pg) (fns : Nat → Option Fn) (N : List Str) (sc : Scope) : Ex → Expr → Bool
  | .var i, e0 => (match e0 with
    | .Name x _ => decide (N[i]? = some x) && visB sc x && !(x == ("__debug__" : Str)) && !(x == ("__classdict__" : Str))
    | _ => false)
  | .con t, e0 => (match e0 with
    | .Constant c _ _ => conB t c
    | _ => false)
  | .glo n, e0 => (match e0 with
    | .Name x _ => (match P.consts[n]? with
    | some (y, _) => decide (y = x)
    | none => false) && glB sc x
    | _ => false)
  | .bin o _ a b, e0 => (match e0 with
    | .BinOp a' op b' _ => binB o op && chkE P fns N sc a a' && chkE P fns N sc b b'
    | _ => false)
  | .neg a, e0 => (match e0 with
    | .UnaryOp .USub a' _ => chkE P fns N sc a a'
    | _ => false)
  | .cmp o a b, e0 => (match e0 with
    | .Compare a' [op] [b'] _ => cmpB o op && !behindInMarks op b' && chkE P fns N sc a a' && chkE P fns N sc b b'
    | _ => false)
  | .isN yes a, e0 => (match e0 with
    | .Compare a' [op] [.Constant .none _ _] _ => (match yes, op with
    | true, .Is => true
    | false, .IsNot => true
    | _, _ => false) && chkE P fns N sc a a'
    | _ => false)
  | .chain o1 o2 a b c, e0 => (match e0 with
    | .Compare a' [p1, p2] [b', c'] _ => cmpB o1 p1 && cmpB o2 p2 && !lastMarks [p1, p2] [b', c'] && chkE P fns N sc a a' && chkE P fns N sc b b' && chkE P fns N sc c c'
    | _ => false)
  | .and es, e0 => (match e0 with
    | .BoolOp .And es' _ => chkEs P fns N sc es es' && es'.all noIf && !es.isEmpty
    | _ => false)
  | .or es, e0 => (match e0 with
    | .BoolOp .Or es' _ => chkEs P fns N sc es es' && es'.all noIf && !es.isEmpty
    | _ => false)
  | .not a, e0 => (match e0 with
    | .UnaryOp .Not a' _ => noIf a' && chkE P fns N sc a a'
    | _ => false)
  | .ife c a b, e0 => (match e0 with
    | .IfExp c' a' b' _ => noIf c' && chkE P fns N sc c c' && chkE P fns N sc a a' && chkE P fns N sc b b'
    | _ => false)
  | .list _ es, e0 => (match e0 with
    | .List es' _ => chkEs P fns N sc es es' && es'.all noStar
    | _ => false)
  | .tuple es, e0 => (match e0 with
    | .Tuple es' _ _ => chkEs P fns N sc es es' && es'.all noStar
    | _ => false)
  | .idx a b, e0 => (match e0 with
    | .Subscript a' b' _ => noSlice b' && chkE P fns N sc a a' && chkE P fns N sc b b'
    | _ => false)
  | .slc _ a lo hi, e0 => (match e0 with
    | .Subscript a' (.Slice lo' hi' none _) _ => chkE P fns N sc a a' && chkO P fns N sc lo lo' && chkO P fns N sc hi hi'
    | _ => false)
  | .bi f es, e0 => (match e0 with
    | .Call (.Name x _) es' [] _ => glB sc x && biB sc f x es' && es'.all noStar && chkEs P fns N sc es (biArgs f es')
    | _ => false)
  | .me m o es, e0 => (match e0 with
    | .Call (.Attribute o' x ap) es' [] cp => noSuper o' && (ap.endLine == cp.line) && es'.all noStar && chkE P fns N sc o o' && meB m x es' && chkEs P fns N sc es es'
    | _ => false)
  | .call _ f es, e0 => (match e0 with
    | .Call (.Name x _) es' [] _ => glB sc x && decide ((f, x) ∈ P.gname) && es'.all noStar && (match fns f with
    | some fn => decide (es.length = fn.np)
    | none => false) && chkEs P fns N sc es es'
    | _ => false)
  | .meth c m f o es, e0 => (match e0 with
    | .Call (.Attribute o' x ap) es' [] cp => decide (x = m) && decide ((c, m, f) ∈ P.meths) && noSuper o' && (ap.endLine == cp.line) && es'.all noStar && decide (es'.length < 30) && (match fns f with
    | some fn => decide (es.length + 1 = fn.np)
    | none => false) && chkE P fns N sc o o' && chkEs P fns N sc es es'
    | _ => false)
  | .make c f es, e0 => (match e0 with
    | .Call (.Name x _) es' [] _ => glB sc x && decide ((c, x, f) ∈ P.makes) && es'.all noStar && (match fns f with
    | some fn => decide (es.length + 1 = fn.np)
    | none => false) && chkEs P fns N sc es es'
    | _ => false)
  | .attr c o f, e0 => (match e0 with
    | .Attribute o' x _ => decide (x = f) && decide ((c, f) ∈ P.flds) && noSuper o' && chkE P fns N sc o o'
    | _ => false)
  | .pick ks es i, e0 => (match e0 with
    | .Subscript (.Dict keys vals _) i' _ => noSlice i' && decide ks.Nodup && decide (ks.length = es.length) && decide (es.length ≤ 15) && decide (ks ≠ []) && chkKs ks keys && chkEs P fns N sc es vals && chkE P fns N sc i i'
    | _ => false)
  | .tabIn yes n a, e0 => (match e0 with
    | .Compare a' [op] [.Name x _] _ => (match P.tabs[n]? with
    | some (y, _) => decide (y = x)
    | none => false) && glB sc x && (match yes, op with
    | true, .In => true
    | false, .NotIn => true
    | _, _ => false) && chkE P fns N sc a a'
    | _ => false)
  | .tabGet n a, e0 => (match e0 with
    | .Subscript (.Name x _) a' _ => (match P.tabs[n]? with
    | some (y, _) => decide (y = x)
    | none => false) && glB sc x && noSlice a' && chkE P fns N sc a a'
    | _ => false)
  | .comp _ tg s c e, e0 => (match e0 with
    | .ListComp e' [⟨tg', it, ifs, 0⟩] scope _ => noSet it && tg.slots.all (fun i => decide (i < N.length)) && blkC N sc scope (ownOf N tg.slots) && chkTg N (relS scope sc) (blkFb scope) tg tg' && chkSr P fns N sc s tg' it && chkC P fns N (relS scope sc) c ifs && chkE P fns N (relS scope sc) e e'
    | _ => false)
def chkEs (P : Pg) (fns : Nat → Option Fn) (N : List Str) (sc : Scope) : List Ex → List Expr → Bool
  | [], [] => true
  | a :: es, a' :: es' => chkE P fns N sc a a' && chkEs P fns N sc es es'
  | _, _ => false
def chkO (P : Pg) (fns : Nat → Option Fn) (N : List Str) (sc : Scope) : Option Ex → Option Expr → Bool
  | none, none => true
  | some a, some a' => chkE P fns N sc a a'
  | _, _ => false
def chkC (P : Pg) (fns : Nat → Option Fn) (N : List Str) (sc : Scope) : Option Ex → List Expr → Bool
  | none, [] => true
  | some a, [a'] => noIf a' && chkE P fns N sc a a'
  | _, _ => false
def chkSr (P : Pg) (fns : Nat → Option Fn) (N : List Str) (sc : Scope) : Sr → Expr → Expr → Bool
  | .seq a, _, e0 => chkE P fns N sc a e0
  | .rng es, _, e0 => (match e0 with
    | .Call (.Name x _) es' [] _ => decide (x = "range") && glB sc x && es'.all noStar && chkEs P fns N sc es es' && (decide (es.length = 1) || decide (es.length = 2))
    | _ => false)
  | .enu a, t0, e0 => (match t0, e0 with
    | .Tuple _ _ _, .Call (.Name x _) [a'] [] _ => decide (x = "enumerate") && glB sc x && noStar a' && chkE P fns N sc a a'
    | _, _ => false)
  | .tab n, _, e0 => (match e0 with
    | .Name x _ => (match P.tabs[n]? with
      | some (y, l) => decide (y = x) && decide (l.map (·.1)).Nodup
      | none => false) && glB sc x
    | _ => false)
end
end Rw
end

section
set_option Elab.async false
set_option linter.all false
set_option maxRecDepth 100000
/-! every expression that the checker takes -/
namespace Rw
open PySem PySem.Spec PyProof.Rows L2
theorem nb {a : Bool} (h : (!a) = true) : a = false := by simpa using h
theorem ba2 {a b : Bool} (h : (a && b) = true) : a = true ∧ b = true := Bool.and_eq_true_iff.mp h
section
variable {P : Pg} {fns : Nat → Option Fn} {ca fa : Nat → Addr} {fdt : Nat → FuncData} {C : Cal} {k : Nat} {X : Cx} {N : List Str} {sc : Scope} {W : XK}
def Both (P : Pg) (ca : Nat → Addr) (C : Cal) (X : Cx) (W : XK) (x : Ex) (e : Expr) : Prop := SE P ca C X W x e ∧ (noIf e = true → ST P ca C X W x e)
/-- item by item -/
inductive Boths (P : Pg) (ca : Nat → Addr) (C : Cal) (X : Cx) (W : XK) : List Ex → List Expr → Prop
  | nil : Boths P ca C X W [] []
  | cons {x : Ex} {e : Expr} {xs : List Ex} {es : List Expr} : Both P ca C X W x e → Boths P ca C X W xs es → Boths P ca C X W (x :: xs) (e :: es)
theorem Boths.sa : ∀ {xs : List Ex} {es : List Expr}, Boths P ca C X W xs es → es.all noStar = true → SA P ca C X W xs es
  | _, _, .nil, _ => s_nil
  | _, _, .cons h t, hs => by
    simp only [List.all_cons, Bool.and_eq_true] at hs
    exact s_cons hs.1 h.1 (Boths.sa t hs.2)
theorem Boths.len : ∀ {xs : List Ex} {es : List Expr}, Boths P ca C X W xs es → xs.length = es.length
  | _, _, .nil => rfl
  | _, _, .cons _ t => by rw [List.length_cons, List.length_cons, Boths.len t]
theorem Boths.and {pos : Pos} : ∀ {x : Ex} {xs : List Ex} {e : Expr} {es : List Expr}, Boths P ca C X W (x :: xs) (e :: es) → PE X (.BoolOp .And (e :: es) pos) (TEo X.K ca W (evAnd P C (x :: xs)))
  | x, [], e, _, .cons h t => by
    cases t
    exact s_one h.1
  | x, y :: xs, e, _, .cons h t => by
    cases t with
    | cons h2 t2 => exact s_and h.1 (Boths.and (.cons h2 t2))
theorem Boths.or {pos : Pos} : ∀ {x : Ex} {xs : List Ex} {e : Expr} {es : List Expr}, Boths P ca C X W (x :: xs) (e :: es) → PE X (.BoolOp .Or (e :: es) pos) (TEo X.K ca W (evOr P C (x :: xs)))
  | x, [], e, _, .cons h t => by
    cases t
    exact s_one h.1
  | x, y :: xs, e, _, .cons h t => by
    cases t with
    | cons h2 t2 => exact s_or h.1 (Boths.or (.cons h2 t2))
theorem Boths.andT {pos : Pos} : ∀ {x : Ex} {xs : List Ex} {e : Expr} {es : List Expr}, Boths P ca C X W (x :: xs) (e :: es) → (e :: es).all noIf = true → PW X (.BoolOp .And (e :: es) pos) (TTo X.K ca W (fun r M => (evAnd P C (x :: xs) r M).bind truV))
  | x, [], e, _, .cons h t, hs => by
    cases t
    exact s_oneTA (h.2 (by simpa using hs))
  | x, y :: xs, e, _, .cons h t, hs => by
    cases t with
    | cons h2 t2 =>
      rw [List.all_cons] at hs
      obtain ⟨z1, z2⟩ := ba2 hs
      exact s_andT (h.2 z1) (Boths.andT (.cons h2 t2) z2)
theorem Boths.orT {pos : Pos} : ∀ {x : Ex} {xs : List Ex} {e : Expr} {es : List Expr}, Boths P ca C X W (x :: xs) (e :: es) → (e :: es).all noIf = true → PW X (.BoolOp .Or (e :: es) pos) (TTo X.K ca W (fun r M => (evOr P C (x :: xs) r M).bind truV))
  | x, [], e, _, .cons h t, hs => by
    cases t
    exact s_oneTO (h.2 (by simpa using hs))
  | x, y :: xs, e, _, .cons h t, hs => by
    cases t with
    | cons h2 t2 =>
      rw [List.all_cons] at hs
      obtain ⟨z1, z2⟩ := ba2 hs
      exact s_orT (h.2 z1) (Boths.orT (.cons h2 t2) z2)
theorem Boths.pps {pd : Pos} : ∀ {ks : List Str} {keys : List (Option Expr)} {es : List Ex} {vals : List Expr}, Boths P ca C X W es vals → chkKs ks keys = true → ks.length = es.length →
    PPs X pd keys vals (trsOf P ca C X W ks es) ∧ keys.all (·.isSome) = true ∧ keys.length = vals.length
  | [], keys, es, _, b, h, hl => by
    cases b with
    | nil =>
      cases keys with
      | nil => exact ⟨pps_nil, rfl, rfl⟩
      | cons z zs => simp [chkKs] at h
    | cons _ _ => cases hl
  | s :: ks, keys, es, _, b, h, hl => by
    cases b with
    | nil => cases hl
    | cons h1 t =>
      unfold chkKs at h
      split at h
      · contradiction
      · rename_i k' ks' x j pos r heq
        cases heq
        obtain ⟨z1, z2⟩ := ba2 h
        have e1 := of_decide_eq_true z1
        subst e1
        obtain ⟨i1, i2, i3⟩ := Boths.pps (pd := pd) t z2 (by simpa using hl)
        exact ⟨pps_cons pe_str h1.1 i1, by rw [List.all_cons, i2]; rfl, by rw [List.length_cons, List.length_cons, i3]⟩
      · cases h
theorem both_val {x : Ex} {e : Expr} (h : SE P ca C X W x e) (hp : plainT e = true) : Both P ca C X W x e := ⟨h, fun _ => s_valT hp h⟩
end
section
variable {P : Pg} {fns : Nat → Option Fn} {ca fa : Nat → Addr} {fdt : Nat → FuncData} {C : Cal} {k : Nat} {N : List Str}
theorem s_bi {X : Cx} {sc : Scope} {W : XK} (g : Good P fns ca fa fdt C k X N sc W) {f : BiK} {es : List Ex} {x : Str} {es' : List Expr} {pp pos : Pos} (h1 : glB sc x = true) (h2 : biB sc f x es' = true) (h3 : es'.all noStar = true) (h4 : Boths P ca C X W es (biArgs f es')) :
    SE P ca C X W (.bi f es) (.Call (.Name x pp) es' [] pos) := by
  unfold biB at h2
  split at h2
  · have e := of_decide_eq_true h2
    subst e
    cases h4 with | cons a t => cases t; exact s_biB g c_len (by decide) PySem.boot_len h1 h3 ((Boths.cons a .nil).sa h3)
  · have e := of_decide_eq_true h2
    subst e
    cases h4 with | cons a t => cases t; exact s_biT g c_int (by decide) PyProof.Rows.boot_int h1 h3 ((Boths.cons a .nil).sa h3)
  · have e := of_decide_eq_true h2
    subst e
    cases h4 with | cons a t => cases t; exact s_biT g (c_list _) (by decide) PyProof.Rows.boot_list h1 h3 ((Boths.cons a .nil).sa h3)
  · have e := of_decide_eq_true h2
    subst e
    cases h4 with | cons a t => cases t; exact s_biT g c_tuple (by decide) PyProof.Rows.boot_tuple h1 h3 ((Boths.cons a .nil).sa h3)
  · have e := of_decide_eq_true h2
    subst e
    cases h4 with | cons a t => cases t with | cons b t => cases t; exact s_biB g (c_min2 g.calm) (by decide) PyProof.Rows.boot_min h1 h3 ((Boths.cons a (.cons b .nil)).sa h3)
  · have e := of_decide_eq_true h2
    subst e
    cases h4 with | cons a t => cases t with | cons b t => cases t; exact s_biB g (c_max2 g.calm) (by decide) PyProof.Rows.boot_max h1 h3 ((Boths.cons a (.cons b .nil)).sa h3)
  · obtain ⟨z1, z3⟩ := ba2 h2
    obtain ⟨z1, z2⟩ := ba2 z1
    have e := of_decide_eq_true z1
    have e2 := of_decide_eq_true z2
    subst e e2
    simp only [List.all_cons, Bool.and_eq_true] at h3
    cases h4 with | cons a t => cases t; exact s_isi g kit_int (fun _ _ => rfl) (by decide) PyProof.Rows.boot_int z3 h1 h3.1 a.1
  · obtain ⟨z1, z3⟩ := ba2 h2
    obtain ⟨z1, z2⟩ := ba2 z1
    have e := of_decide_eq_true z1
    have e2 := of_decide_eq_true z2
    subst e e2
    simp only [List.all_cons, Bool.and_eq_true] at h3
    cases h4 with | cons a t => cases t; exact s_isi g kit_bool (fun _ _ => rfl) (by decide) PyProof.Rows.boot_bool z3 h1 h3.1 a.1
  · obtain ⟨z1, z3⟩ := ba2 h2
    obtain ⟨z1, z2⟩ := ba2 z1
    have e := of_decide_eq_true z1
    have e2 := of_decide_eq_true z2
    subst e e2
    simp only [List.all_cons, Bool.and_eq_true] at h3
    cases h4 with | cons a t => cases t; exact s_isi g kit_list (fun _ _ => rfl) (by decide) PyProof.Rows.boot_list z3 h1 h3.1 a.1
  · obtain ⟨z1, z5⟩ := ba2 h2
    obtain ⟨z1, z4⟩ := ba2 z1
    obtain ⟨z1, z3⟩ := ba2 z1
    obtain ⟨z1, z2⟩ := ba2 z1
    have e := of_decide_eq_true z1
    have e2 := of_decide_eq_true z2
    have e3 := of_decide_eq_true z3
    subst e e2 e3
    simp only [List.all_cons, Bool.and_eq_true] at h3
    cases h4 with | cons a t => cases t; exact s_isiT g z4 z5 h1 h3.1 a.1
  · cases h2
theorem s_meAll {X : Cx} {W : XK} {m : MeK} {o : Ex} {es : List Ex} {x : Str} {o' : Expr} {es' : List Expr} {ap cp : Pos} (h1 : noSuper o' = true) (h2 : (ap.endLine == cp.line) = true) (h3 : es'.all noStar = true) (h4 : SE P ca C X W o o') (h5 : meB m x es' = true) (h6 : Boths P ca C X W es es') :
    SE P ca C X W (.me m o es) (.Call (.Attribute o' x ap) es' [] cp) := by
  unfold meB at h5
  split at h5
  · have e := of_decide_eq_true h5
    subst e
    cases h6 with | cons a t => cases t; exact s_me PySem.F.slot_list_append PySem.F.type_list_append m_append h1 h2 rfl h3 h4 ((Boths.cons a .nil).sa h3)
  · have e := of_decide_eq_true h5
    subst e
    cases h6 with | cons a t => cases t; exact s_me PySem.F.slot_list_extend PySem.F.type_list_extend m_extend h1 h2 rfl h3 h4 ((Boths.cons a .nil).sa h3)
  · have e := of_decide_eq_true h5
    subst e
    cases h6; exact s_me0 PySem.F.slot_list_pop PySem.F.type_list_pop m_pop h1 h2 h4
  · cases h5
mutual
theorem soundE : ∀ (x : Ex) (X : Cx) (sc : Scope) (W : XK) (e : Expr), Good P fns ca fa fdt C k X N sc W → chkE P fns N sc x e = true → Both P ca C X W x e
  | .var i, X, sc, W, e, g, h => by
    unfold chkE at h
    split at h
    · obtain ⟨h, h4⟩ := ba2 h
      obtain ⟨h, h3⟩ := ba2 h
      obtain ⟨h1, h2⟩ := ba2 h
      exact both_val (s_var g (of_decide_eq_true h1) h2 (by simpa using h3) (by simpa using h4)) rfl
    · cases h
  | .con t, X, sc, W, e, g, h => by
    unfold chkE at h
    split at h
    · exact both_val (s_con h) rfl
    · cases h
  | .glo n, X, sc, W, e, g, h => by
    unfold chkE at h
    split at h
    · obtain ⟨h1, h2⟩ := ba2 h
      cases q : P.consts[n]? with
      | none => simp only [q] at h1; cases h1
      | some z =>
        obtain ⟨y, t⟩ := z
        simp only [q] at h1
        have e1 := of_decide_eq_true h1
        subst e1
        exact both_val (s_glo g q h2) rfl
    · cases h
  | .bin o mu a b, X, sc, W, e, g, h => by
    unfold chkE at h
    split at h
    · obtain ⟨h, h3⟩ := ba2 h
      obtain ⟨h1, h2⟩ := ba2 h
      exact both_val (s_bin h1 (soundE a X sc W _ g h2).1 (soundE b X sc W _ g h3).1) rfl
    · cases h
  | .neg a, X, sc, W, e, g, h => by
    unfold chkE at h
    split at h
    · exact both_val (s_neg (soundE a X sc W _ g h).1) rfl
    · cases h
  | .cmp o a b, X, sc, W, e, g, h => by
    unfold chkE at h
    split at h
    · obtain ⟨h, h4⟩ := ba2 h
      obtain ⟨h, h3⟩ := ba2 h
      obtain ⟨h1, h2⟩ := ba2 h
      have h2' := nb h2
      have A := (soundE a X sc W _ g h3).1
      have B := (soundE b X sc W _ g h4).1
      exact ⟨s_cmp g h1 h2' A B, fun _ => s_cmpT g h1 h2' A B⟩
    · cases h
  | .isN yes a, X, sc, W, e, g, h => by
    unfold chkE at h
    split at h
    · rename_i a' op j pos' pos
      obtain ⟨h1, h2⟩ := ba2 h
      have A := (soundE a X sc W _ g h2).1
      have ho : op = if yes then .Is else .IsNot := by
        cases yes <;> cases op <;> first | rfl | cases h1
      exact ⟨s_isN ho A, fun _ => s_isNT ho A⟩
    · cases h
  | .chain o1 o2 a b c, X, sc, W, e, g, h => by
    unfold chkE at h
    split at h
    · obtain ⟨h, h6⟩ := ba2 h
      obtain ⟨h, h5⟩ := ba2 h
      obtain ⟨h, h4⟩ := ba2 h
      obtain ⟨h, h3⟩ := ba2 h
      obtain ⟨h1, h2⟩ := ba2 h
      have h3' := nb h3
      have A := (soundE a X sc W _ g h4).1
      have B := (soundE b X sc W _ g h5).1
      have D := (soundE c X sc W _ g h6).1
      exact ⟨s_chain g h1 h2 h3' A B D, fun _ => s_chainT g h1 h2 h3' A B D⟩
    · cases h
  | .and es, X, sc, W, e, g, h => by
    unfold chkE at h
    split at h
    · obtain ⟨h, h3⟩ := ba2 h
      obtain ⟨h1, h2⟩ := ba2 h
      have B := soundEs es X sc W _ g h1
      cases B with
      | nil => cases h3
      | cons a t => exact ⟨(Boths.cons a t).and, fun _ => ((Boths.cons a t).andT h2).pt⟩
    · cases h
  | .or es, X, sc, W, e, g, h => by
    unfold chkE at h
    split at h
    · obtain ⟨h, h3⟩ := ba2 h
      obtain ⟨h1, h2⟩ := ba2 h
      have B := soundEs es X sc W _ g h1
      cases B with
      | nil => cases h3
      | cons a t => exact ⟨(Boths.cons a t).or, fun _ => ((Boths.cons a t).orT h2).pt⟩
    · cases h
  | .not a, X, sc, W, e, g, h => by
    unfold chkE at h
    split at h
    · obtain ⟨h1, h2⟩ := ba2 h
      have A := soundE a X sc W _ g h2
      exact ⟨s_not A.1, fun _ => s_notT (A.2 h1)⟩
    · cases h
  | .ife c a b, X, sc, W, e, g, h => by
    unfold chkE at h
    split at h
    · obtain ⟨h, h4⟩ := ba2 h
      obtain ⟨h, h3⟩ := ba2 h
      obtain ⟨h1, h2⟩ := ba2 h
      exact ⟨s_ife ((soundE c X sc W _ g h2).2 h1) (soundE a X sc W _ g h3).1 (soundE b X sc W _ g h4).1, fun z => by cases z⟩
    · cases h
  | .list mu es, X, sc, W, e, g, h => by
    unfold chkE at h
    split at h
    · obtain ⟨h1, h2⟩ := ba2 h
      exact both_val (s_list ((soundEs es X sc W _ g h1).sa h2)) rfl
    · cases h
  | .tuple es, X, sc, W, e, g, h => by
    unfold chkE at h
    split at h
    · obtain ⟨h1, h2⟩ := ba2 h
      exact both_val (s_tuple ((soundEs es X sc W _ g h1).sa h2)) rfl
    · cases h
  | .idx a b, X, sc, W, e, g, h => by
    unfold chkE at h
    split at h
    · obtain ⟨h, h3⟩ := ba2 h
      obtain ⟨h1, h2⟩ := ba2 h
      exact both_val (s_idx h1 (soundE a X sc W _ g h2).1 (soundE b X sc W _ g h3).1) rfl
    · cases h
  | .slc mu a lo hi, X, sc, W, e, g, h => by
    unfold chkE at h
    split at h
    · obtain ⟨h, h3⟩ := ba2 h
      obtain ⟨h1, h2⟩ := ba2 h
      exact both_val (s_slc (soundE a X sc W _ g h1).1 (soundO lo X sc W _ g h2) (soundO hi X sc W _ g h3)) rfl
    · cases h
  | .bi f es, X, sc, W, e, g, h => by
    unfold chkE at h
    split at h
    · obtain ⟨h, h4⟩ := ba2 h
      obtain ⟨h, h3⟩ := ba2 h
      obtain ⟨h1, h2⟩ := ba2 h
      exact both_val (s_bi g h1 h2 h3 (soundEs es X sc W _ g h4)) rfl
    · cases h
  | .me m o es, X, sc, W, e, g, h => by
    unfold chkE at h
    split at h
    · obtain ⟨h, h6⟩ := ba2 h
      obtain ⟨h, h5⟩ := ba2 h
      obtain ⟨h, h4⟩ := ba2 h
      obtain ⟨h, h3⟩ := ba2 h
      obtain ⟨h1, h2⟩ := ba2 h
      exact both_val (s_meAll h1 h2 h3 (soundE o X sc W _ g h4).1 h5 (soundEs es X sc W _ g h6)) rfl
    · cases h
  | .call m f es, X, sc, W, e, g, h => by
    unfold chkE at h
    split at h
    · obtain ⟨h, h5⟩ := ba2 h
      obtain ⟨h, h4⟩ := ba2 h
      obtain ⟨h, h3⟩ := ba2 h
      obtain ⟨h1, h2⟩ := ba2 h
      cases q : fns f with
      | none => simp only [q] at h4; cases h4
      | some fn =>
        simp only [q] at h4
        have B := soundEs es X sc W _ g h5
        cases B with
        | nil => exact both_val (s_call0 g q h4 (of_decide_eq_true h2) h1) rfl
        | cons a t => exact both_val (s_call g q h4 (of_decide_eq_true h2) h1 h3 ((Boths.cons a t).sa h3)) rfl
    · cases h
  | .meth c m f o es, X, sc, W, e, g, h => by
    unfold chkE at h
    split at h
    · obtain ⟨h, h9⟩ := ba2 h
      obtain ⟨h, h8⟩ := ba2 h
      obtain ⟨h, h7⟩ := ba2 h
      obtain ⟨h, h6⟩ := ba2 h
      obtain ⟨h, h5⟩ := ba2 h
      obtain ⟨h, h4⟩ := ba2 h
      obtain ⟨h, h3⟩ := ba2 h
      obtain ⟨h1, h2⟩ := ba2 h
      have e1 := of_decide_eq_true h1
      subst e1
      have mc := fun m => mc_eq (env := X.env) (m := m) h3 h5 h6 h4
      cases q : fns f with
      | none => simp only [q] at h7; cases h7
      | some fn =>
        simp only [q] at h7
        have B := soundEs es X sc W _ g h9
        have O := (soundE o X sc W _ g h8).1
        cases B with
        | nil => exact both_val (s_meth0 g q h7 (of_decide_eq_true h2) h3 (mc _) O) rfl
        | cons a t => exact both_val (s_meth g q h7 (of_decide_eq_true h2) h3 h5 (mc _) O ((Boths.cons a t).sa h5)) rfl
    · cases h
  | .make c f es, X, sc, W, e, g, h => by
    unfold chkE at h
    split at h
    · obtain ⟨h, h5⟩ := ba2 h
      obtain ⟨h, h4⟩ := ba2 h
      obtain ⟨h, h3⟩ := ba2 h
      obtain ⟨h1, h2⟩ := ba2 h
      cases q : fns f with
      | none => simp only [q] at h4; cases h4
      | some fn =>
        simp only [q] at h4
        have B := soundEs es X sc W _ g h5
        cases B with
        | nil => exact both_val (s_make0 g q h4 (of_decide_eq_true h2) h1) rfl
        | cons a t => exact both_val (s_make g q h4 (of_decide_eq_true h2) h1 h3 ((Boths.cons a t).sa h3)) rfl
    · cases h
  | .attr c o f, X, sc, W, e, g, h => by
    unfold chkE at h
    split at h
    · obtain ⟨h, h4⟩ := ba2 h
      obtain ⟨h, h3⟩ := ba2 h
      obtain ⟨h1, h2⟩ := ba2 h
      have e1 := of_decide_eq_true h1
      subst e1
      exact both_val (s_attr g (of_decide_eq_true h2) h3 (soundE o X sc W _ g h4).1) rfl
    · cases h
  | .pick ks es i, X, sc, W, e, g, h => by
    unfold chkE at h
    split at h
    · obtain ⟨h, h8⟩ := ba2 h
      obtain ⟨h, h7⟩ := ba2 h
      obtain ⟨h, h6⟩ := ba2 h
      obtain ⟨h, h5⟩ := ba2 h
      obtain ⟨h, h4⟩ := ba2 h
      obtain ⟨h, h3⟩ := ba2 h
      obtain ⟨h1, h2⟩ := ba2 h
      have B := soundEs es X sc W _ g h7
      have l1 := of_decide_eq_true h3
      have l2 := of_decide_eq_true h4
      obtain ⟨p1, p2, p3⟩ := B.pps (pd := _) h6 l1
      have k0 := of_decide_eq_true h5
      refine both_val (s_pick g (of_decide_eq_true h2) l1 l2 p1 p2 p3 ?_ (by rw [p3, ← B.len]; exact l2) h1 (soundE i X sc W _ g h8).1) rfl
      intro z
      subst z
      have : 0 = es.length := by rw [B.len, ← p3]; rfl
      rw [← l1] at this
      exact k0 (List.length_eq_zero_iff.mp this.symm)
    · cases h
  | .tabIn yes n a, X, sc, W, e, g, h => by
    unfold chkE at h
    split at h
    · rename_i a' op x pp pos
      obtain ⟨h, h4⟩ := ba2 h
      obtain ⟨h, h3⟩ := ba2 h
      obtain ⟨h1, h2⟩ := ba2 h
      have A := (soundE a X sc W _ g h4).1
      have ho : op = if yes then .In else .NotIn := by
        cases yes <;> cases op <;> first | rfl | cases h3
      cases q : P.tabs[n]? with
      | none => simp only [q] at h1; cases h1
      | some z =>
        obtain ⟨y, l⟩ := z
        simp only [q] at h1
        have e1 := of_decide_eq_true h1
        subst e1
        exact ⟨s_tabIn g q h2 ho A, fun _ => s_tabInT g q h2 ho A⟩
    · cases h
  | .tabGet n a, X, sc, W, e, g, h => by
    unfold chkE at h
    split at h
    · obtain ⟨h, h4⟩ := ba2 h
      obtain ⟨h, h3⟩ := ba2 h
      obtain ⟨h1, h2⟩ := ba2 h
      cases q : P.tabs[n]? with
      | none => simp only [q] at h1; cases h1
      | some z =>
        obtain ⟨y, l⟩ := z
        simp only [q] at h1
        have e1 := of_decide_eq_true h1
        subst e1
        exact both_val (s_tabGet g q h2 h3 (soundE a X sc W _ g h4).1) rfl
    · cases h
  | .comp mu tg s c e0, X, sc, W, e, g, h => by
    unfold chkE at h
    split at h
    · rename_i e' tg' it ifs scope pos
      obtain ⟨h, h7⟩ := ba2 h
      obtain ⟨h, h6⟩ := ba2 h
      obtain ⟨h, h5⟩ := ba2 h
      obtain ⟨h, h4⟩ := ba2 h
      obtain ⟨h, h3⟩ := ba2 h
      obtain ⟨h1, h2⟩ := ba2 h
      refine both_val (PE.imp (pe_lc (own := ownOf N tg.slots) (g := TGo X.K ca tg) (tt := TTo X.K ca W0 (evC P C c)) (te := TEo X.K ca W0 (evE P C e0)) g.calm (by rw [g.hN]; exact g.nd) (soundSr s X sc W tg' it g h5) (by rw [g.hN, g.hsc]; exact blkOk_by h3) (fun s1 H1 C1 cl fp => ?_) (fun s1 H1 C1 cl fp => ?_) (fun s1 H1 C1 cl fp => ?_) (noSet_ok h1 _)) fun σ H Q q => ?_) rfl
      · have g' := g.blk s1 H1 scope C1 cl fp
        exact s_tg (X := X.blk s1 H1 scope (compEnvC scope cl C1 X.env) fp) g'.hN g'.nd g'.hsc g'.calm (fun x hx => blkFb_ok hx) tg tg' h4
      · exact soundC c (X.blk s1 H1 scope (compEnvC scope cl C1 X.env) fp) (relS scope sc) W0 ifs (g.blk s1 H1 scope C1 cl fp) h6
      · exact (soundE e0 (X.blk s1 H1 scope (compEnvC scope cl C1 X.env) fp) (relS scope sc) W0 e' (g.blk s1 H1 scope C1 cl fp) h7).1
      · rw [ownOf_map h2]
        exact comp_step q
    · cases h
theorem soundEs : ∀ (es : List Ex) (X : Cx) (sc : Scope) (W : XK) (es' : List Expr), Good P fns ca fa fdt C k X N sc W → chkEs P fns N sc es es' = true → Boths P ca C X W es es'
  | [], X, sc, W, es', g, h => by
    cases es' with
    | nil => exact .nil
    | cons a t => unfold chkEs at h; cases h
  | x :: es, X, sc, W, es', g, h => by
    cases es' with
    | nil => unfold chkEs at h; cases h
    | cons a t =>
      unfold chkEs at h
      obtain ⟨h1, h2⟩ := ba2 h
      exact .cons (soundE x X sc W a g h1) (soundEs es X sc W t g h2)
theorem soundO : ∀ (o : Option Ex) (X : Cx) (sc : Scope) (W : XK) (o' : Option Expr), Good P fns ca fa fdt C k X N sc W → chkO P fns N sc o o' = true → PO X o' (TOo X.K ca W (evO P C o))
  | none, X, sc, W, o', g, h => by
    cases o' with
    | none => exact s_pnone
    | some a => unfold chkO at h; cases h
  | some x, X, sc, W, o', g, h => by
    cases o' with
    | none => unfold chkO at h; cases h
    | some a => unfold chkO at h; exact s_psome (soundE x X sc W a g h).1
theorem soundC : ∀ (c : Option Ex) (X : Cx) (sc : Scope) (W : XK) (ifs : List Expr), Good P fns ca fa fdt C k X N sc W → chkC P fns N sc c ifs = true → PTs X ifs (TTo X.K ca W (evC P C c))
  | none, X, sc, W, ifs, g, h => by
    unfold chkC at h
    split at h
    · exact ⟨fun pins s σ H Q I q => pts_nil.run pins s σ H Q I (by
        obtain ⟨p, F, G, r, M, sr, er, q⟩ := q
        exact Tk.ok q sr rfl)⟩
    · contradiction
    · cases h
  | some x, X, sc, W, ifs, g, h => by
    unfold chkC at h
    split at h
    · contradiction
    · rename_i y a heq
      cases heq
      obtain ⟨h1, h2⟩ := ba2 h
      exact pts_one ((soundE x X sc W a g h2).2 h1)
    · cases h
theorem soundSr : ∀ (s : Sr) (X : Cx) (sc : Scope) (W : XK) (tg e : Expr), Good P fns ca fa fdt C k X N sc W → chkSr P fns N sc s tg e = true → SI P ca C X W tg s e
  | .seq a, X, sc, W, tg, e, g, h => s_seq (soundE a X sc W e g h).1
  | .rng es, X, sc, W, tg, e, g, h => by
    unfold chkSr at h
    split at h
    · obtain ⟨h, h5⟩ := ba2 h
      obtain ⟨h, h4⟩ := ba2 h
      obtain ⟨h, h3⟩ := ba2 h
      obtain ⟨h1, h2⟩ := ba2 h
      have e1 := of_decide_eq_true h1
      subst e1
      have B := soundEs es X sc W _ g h4
      cases B with
      | nil => cases h5
      | cons a t =>
        simp only [List.all_cons, Bool.and_eq_true] at h3
        cases t with
        | nil => exact s_rng1 g h2 h3.1 a.1
        | cons b t =>
          simp only [List.all_cons, Bool.and_eq_true] at h3
          cases t with
          | nil => exact s_rng2 g h2 h3.1 h3.2.1 a.1 b.1
          | cons c t => simp at h5
    · cases h
  | .enu a, X, sc, W, tg, e, g, h => by
    unfold chkSr at h
    split at h
    · obtain ⟨h, h4⟩ := ba2 h
      obtain ⟨h, h3⟩ := ba2 h
      obtain ⟨h1, h2⟩ := ba2 h
      have e1 := of_decide_eq_true h1
      subst e1
      exact s_enu g h2 h3 (soundE a X sc W _ g h4).1
    · cases h
  | .tab n, X, sc, W, tg, e, g, h => by
    unfold chkSr at h
    split at h
    · obtain ⟨h1, h2⟩ := ba2 h
      cases q : P.tabs[n]? with
      | none => simp only [q] at h1; cases h1
      | some z =>
        obtain ⟨y, l⟩ := z
        simp only [q] at h1
        obtain ⟨z1, z2⟩ := ba2 h1
        have e1 := of_decide_eq_true z1
        subst e1
        exact s_tab g q (of_decide_eq_true z2) h2
    · cases h
end
end
end Rw
end

section
set_option Elab.async false
set_option linter.all false
set_option maxRecDepth 100000
/-! statements -/
namespace Rw
open PySem PySem.Spec PyProof.Rows L2
def relF (K : PySem.W.Frag) (p : List Addr) (F : Hp) : Fl → Sum L2.St V → Prop
  | .nx r, .inl σ => ER K p F r σ
  | .rt d, .inr v => RD K p F d v
  | _, _ => False
def endQ (D : Ends) : Sum L2.St V → Hp → Prop
  | .inl σ, H => D.nx σ H
  | .inr v, H => D.rt v H
def TSo (K : PySem.W.Frag) (ca : Nat → Addr) (W : XK) (f : En → Ar → Res Fl) : TS := fun D σ H => ∃ p F G r M, SR K ca p F G M H ∧ ER K p F r σ ∧ Tk K ca (relF K) W G p F (f r M) (endQ D)
def noComp : Expr → Bool
  | .ListComp .. => false
  | .SetComp .. => false
  | .DictComp .. => false
  | _ => true
theorem noComp_ok {e : Expr} (h : noComp e = true) (t : Option Expr) (l : Nat) (env : Env) : swapsWith e t l env = pure false := by
  cases e <;> first | rfl | cases h
theorem attr_sw (e o : Expr) (f : Str) (p : Pos) (l : Nat) (env : Env) : swapsWith e (some (.Attribute o f p)) l env = pure false := by
  cases e <;> rfl
section
variable {P : Pg} {fns : Nat → Option Fn} {ca fa : Nat → Addr} {fdt : Nat → FuncData} {C : Cal} {k : Nat} {X : Cx} {N : List Str} {sc : Scope} {W : XK}
abbrev SS (P : Pg) (ca : Nat → Addr) (C : Cal) (X : Cx) (W : XK) (x : Sm) (e : Stmt) : Prop := PS X e (TSo X.K ca W (evS P C x))
abbrev SSs (P : Pg) (ca : Nat → Addr) (C : Cal) (X : Cx) (W : XK) (x : List Sm) (e : List Stmt) : Prop := PSs X e (TSo X.K ca W (evB P C x))
theorem PS.imp {e : Stmt} {t t' : TS} (h : PS X e t) (k : ∀ D σ H, t' D σ H → t D σ H) : PS X e t' := ⟨fun pins s σ H D I q => h.run pins s σ H D I (k D σ H q)⟩
theorem PSs.imp {e : List Stmt} {t t' : TS} (h : PSs X e t) (k : ∀ D σ H, t' D σ H → t D σ H) : PSs X e t' := ⟨fun pins s σ H D I q => h.run pins s σ H D I (k D σ H q)⟩
theorem t_nil : SSs P ca C X W [] [] := by
  refine PSs.imp pss_nil fun D σ H h => ?_
  obtain ⟨p, F, G, r, M, sr, er, h⟩ := h
  exact Tk.ok (v := Sum.inl σ) h sr er
theorem t_cons {s : Sm} {ss : List Sm} {s' : Stmt} {ss' : List Stmt} (h1 : SS P ca C X W s s') (h2 : SSs P ca C X W ss ss') : SSs P ca C X W (s :: ss) (s' :: ss') := by
  refine PSs.imp (pss_cons h1 h2) fun D σ H h => ?_
  obtain ⟨p, F, G, r, M, sr, er, h⟩ := h
  refine ⟨p, F, G, r, M, sr, er, (Tk.bind (rel := relF X.K) h).mono fun o H1 ⟨p1, F1, f, M1, a1, b1, s1, r1, _, hh⟩ => ?_⟩
  cases f with
  | nx r' =>
    cases o with
    | inl σ' => exact ⟨p1, F1, G, r', M1, s1, r1, hh⟩
    | inr v => exact r1.elim
  | rt d =>
    cases o with
    | inl σ' => exact r1.elim
    | inr v => exact (show endQ D (Sum.inr v) H1 from Tk.ok (v := Sum.inr v) (show Tk X.K ca (relF X.K) W G p1 F1 (.ok (.rt d) M1) (endQ D) from hh) s1 r1)
theorem t_expr {e : Ex} {e' : Expr} {pos : Pos} (hn : noComp e' = true) (h : SE P ca C X W e e') : SS P ca C X W (.expr e) (.Expr e' pos) := by
  refine PS.imp (ps_expr h (noComp_ok hn _ _ _)) fun D σ H h => ?_
  obtain ⟨p, F, G, r, M, sr, er, h⟩ := h
  refine ⟨p, F, G, r, M, sr, er, (Tk.bind (rel := RD X.K) h).mono fun v H1 ⟨p1, F1, x, M1, a1, b1, s1, r1, _, h1⟩ => ?_⟩
  exact Tk.ok (v := Sum.inl σ) h1 s1 (er.sub a1 b1)
theorem t_ret {e : Ex} {e' : Expr} {pos : Pos} (h : SE P ca C X W e e') : SS P ca C X W (.ret (some e)) (.Return (some e') pos) := by
  refine PS.imp (ps_ret h) fun D σ H h => ?_
  obtain ⟨p, F, G, r, M, sr, er, h⟩ := h
  refine ⟨p, F, G, r, M, sr, er, (Tk.bind (rel := RD X.K) h).mono fun v H1 ⟨p1, F1, x, M1, a1, b1, s1, r1, _, h1⟩ => ?_⟩
  exact Tk.ok (v := Sum.inr v) h1 s1 r1
theorem t_retN {pos : Pos} : SS P ca C X W (.ret none) (.Return none pos) := by
  refine PS.imp ps_retN fun D σ H h => ?_
  obtain ⟨p, F, G, r, M, sr, er, h⟩ := h
  exact Tk.ok (v := Sum.inr .non) h sr (show relF X.K p F (.rt (.t .non)) (.inr .non) from (show RD X.K p F (.t .non) .non from (show RT X.K F .non .non from rfl)))
theorem asg_step {tg : Tg} {e : Ex} {D : Ends} {σ : L2.St} {H : Hp} (h : TSo X.K ca W (evS P C (.asg tg e)) D σ H) : TEo X.K ca W (evE P C e) σ H fun x H1 => TGo X.K ca tg x σ H1 D.nx := by
  obtain ⟨p, F, G, r, M, sr, er, h⟩ := h
  refine ⟨p, F, G, r, M, sr, er, (Tk.bind (rel := RD X.K) h).mono fun v H1 ⟨p1, F1, x, M1, a1, b1, s1, r1, _, h1⟩ => ?_⟩
  cases q : asg tg x M1 r with
  | none => simp only [q] at h1; exact h1.elim
  | some r' =>
    simp only [q] at h1
    exact ⟨p1, F1, G, M1, x, r, r', s1, er.sub a1 b1, r1, q, fun σ' er' _ => Tk.ok (v := Sum.inl σ') h1 s1 er'⟩
theorem t_asg {tg : Tg} {e : Ex} {tg' e' : Expr} {pos : Pos} (hg : PG X tg' (TGo X.K ca tg)) (he : SE P ca C X W e e') (hs : swapsWithSole [tg'] e' pos.line X.env = pure false) (hw : swappedStores [tg'] e' X.env = pure none)
    (h1 : (assignEach [tg'] X.env).map (·.2) = [assign tg' X.env]) : SS P ca C X W (.asg tg e) (.Assign [tg'] e' pos) :=
  PS.imp (ps_asg he hg hs hw h1) fun D σ H h => asg_step h
theorem t_fld (g : Good P fns ca fa fdt C k X N sc W) {c : Nat} {o e : Ex} {f : Str} {o' e' : Expr} {pos p' : Pos} (hx : (c, f) ∈ P.flds) (ho : SE P ca C X W o o') (he : SE P ca C X W e e') : SS P ca C X W (.fld c o f e) (.Assign [.Attribute o' f p'] e' pos) := by
  obtain ⟨c1, c2⟩ := g.fx.cls c f hx
  refine PS.imp (ps_fld ho he (attr_sw _ _ _ _ _ _)) fun D σ H h => ?_
  obtain ⟨p, F, G, r, M, sr, er, h⟩ := h
  refine ⟨p, F, G, r, M, sr, er, (Tk.bind (rel := RD X.K) h).mono fun v H1 ⟨p1, F1, x, M1, a1, b1, s1, r1, _, h1⟩ => ?_⟩
  refine ⟨p1, F1, G, r, M1, s1, er.sub a1 b1, (Tk.bind (rel := RD X.K) h1).mono fun w H2 ⟨p2, F2, y, M2, a2, b2, s2, r2, _, h2⟩ => ?_⟩
  unfold fldV at h2
  cases q : objOf M2 c y with
  | none => simp only [q] at h2; exact h2.elim
  | some fs =>
    simp only [q] at h2
    obtain ⟨i, a, dx, vs, e1, e2, e3, e4, e5, e6⟩ := objOf_ok s2 r2 q
    subst e1
    cases q2 : decide (fs.length < 1000) with
    | false => simp only [q2] at h2; exact h2.elim
    | true =>
      simp only [q2] at h2
      have lt := of_decide_eq_true q2
      have r1' := RD.sub a2 b2 x v r1
      refine ⟨a, ca c, dx, vs, e3, e5, c1, c2, by rw [← paired_len e6]; exact lt, ?_⟩
      have s3 := s2.set (m := .obj c (putD f x fs)) (o := .ins (ca c) dx (putF f v vs)) e2 ⟨dx, putF f v vs, upd_same, put_fld r1' e6⟩
      exact Tk.ok (v := Sum.inl σ) (show Tk X.K ca (relF X.K) W G p2 F2 (.ok (.nx r) (M2.set i (.obj c (putD f x fs)))) (endQ D) from h2) s3 ((er.sub a1 b1).sub a2 b2)
theorem t_sub {o i e : Ex} {o' i' e' : Expr} {pos p' : Pos} (hs : swapsWithSole [.Subscript o' i' p'] e' pos.line X.env = pure false) (hn : noSlice i' = true) (ho : SE P ca C X W o o') (hi : SE P ca C X W i i') (he : SE P ca C X W e e') : SS P ca C X W (.sub o i e) (.Assign [.Subscript o' i' p'] e' pos) := by
  refine PS.imp (ps_asg he (pg_sub ho hi (s_sub (ca := ca)) (fun v => by cases i' <;> first | rfl | cases hn)) hs rfl rfl) fun D σ H h => ?_
  obtain ⟨p, F, G, r, M, sr, er, h⟩ := h
  refine ⟨p, F, G, r, M, sr, er, (Tk.bind (rel := RD X.K) h).mono fun v H1 ⟨p1, F1, x, M1, a1, b1, s1, r1, _, h1⟩ => ?_⟩
  refine ⟨p1, F1, G, r, M1, s1, er.sub a1 b1, (Tk.bind (rel := RD X.K) h1).mono fun w H2 ⟨p2, F2, y, M2, a2, b2, s2, r2, _, h2⟩ => ?_⟩
  refine ⟨p2, F2, G, r, M2, s2, (er.sub a1 b1).sub a2 b2, (Tk.bind (rel := RD X.K) h2).mono fun u H3 ⟨p3, F3, z, M3, a3, b3, s3, r3, _, h3⟩ => ?_⟩
  refine ⟨p3, F3, G, M3, y, z, x, W, s3, RD.sub a3 b3 y w r2, r3, RD.sub (a2.trans a3) (b2.trans b3) x v r1, (Tk.bind (rel := fun _ _ (_ : Unit) (_ : Unit) => True) h3).mono fun _ H4 ⟨p4, F4, _, M4, a4, b4, s4, _, _, h4⟩ => ?_⟩
  exact Tk.ok (v := Sum.inl σ) h4 s4 (((er.sub a1 b1).sub a2 b2).sub (a3.trans a4) (b3.trans b4))
theorem t_ite {c : Ex} {a b : List Sm} {c' : Expr} {a' b' : List Stmt} {pos : Pos} (hc : ST P ca C X W c c') (ha : SSs P ca C X W a a') (hb : SSs P ca C X W b b') : SS P ca C X W (.ite c a b) (.If c' a' b' pos) := by
  refine PS.imp (ps_if hc ha hb) fun D σ H h => ?_
  obtain ⟨p, F, G, r, M, sr, er, h⟩ := h
  refine ⟨p, F, G, r, M, sr, er, (Tk.bind (rel := fun _ _ (a b : Bool) => a = b) h).mono fun kk H1 ⟨p1, F1, x, M1, a1, b1, s1, r1, _, h1⟩ => ?_⟩
  have r1' : x = kk := r1
  subst r1'
  cases x with
  | true => rw [if_pos rfl]; exact ⟨p1, F1, G, r, M1, s1, er.sub a1 b1, h1⟩
  | false => rw [if_neg (by simp)]; exact ⟨p1, F1, G, r, M1, s1, er.sub a1 b1, h1⟩
theorem t_whl {c : Ex} {b : List Sm} {c' : Expr} {b' : List Stmt} {pos : Pos} (hp : PassesOwn (model X.prog X.w) X.A X.env X.xe) (hc : ST P ca C X W c c') (hb : SSs P ca C X W b b') : SS P ca C X W (.whl c b) (.While c' b' [] pos) := by
  refine PS.imp (ps_while hp hc hb) fun D σ H h => ?_
  obtain ⟨p, F, G, r, M, sr, er, h⟩ := h
  refine ⟨fun n σ H => ∃ p F r M, SR X.K ca p F G M H ∧ ER X.K p F r σ ∧ Tk X.K ca (relF X.K) W G p F (whl (fun r M => evT P C c r M) (fun r M => evB P C b r M) n r M) (endQ D), ⟨wfuel, p, F, r, M, sr, er, h⟩, ?_⟩
  rintro n σ1 H1 ⟨p1, F1, r1, M1, s1, er1, h1⟩
  cases n with
  | zero => exact h1.elim
  | succ n =>
    refine ⟨p1, F1, G, r1, M1, s1, er1, (Tk.bind (rel := fun _ _ (a b : Bool) => a = b) h1).mono fun kk H2 ⟨p2, F2, x, M2, a2, b2, s2, r2, _, h2⟩ => ?_⟩
    have r2' : x = kk := r2
    subst r2'
    cases x with
    | false => rw [if_neg (by simp)]; exact Tk.ok (v := Sum.inl σ1) (show Tk X.K ca (relF X.K) W G p2 F2 (.ok (.nx r1) M2) (endQ D) from h2) s2 (er1.sub a2 b2)
    | true =>
      rw [if_pos rfl]
      refine ⟨fun σ H => ∃ p F r M, SR X.K ca p F G M H ∧ ER X.K p F r σ ∧ Tk X.K ca (relF X.K) W G p F (whl (fun r M => evT P C c r M) (fun r M => evB P C b r M) n r M) (endQ D), fun σ' H' z => ⟨n, Nat.lt_succ_self _, z⟩, ?_⟩
      refine ⟨p2, F2, G, r1, M2, s2, er1.sub a2 b2, (Tk.bind (rel := relF X.K) (show Tk X.K ca (relF X.K) W G p2 F2 ((evB P C b r1 M2).bind fun f M => match f with | .nx r' => whl (fun r M => evT P C c r M) (fun r M => evB P C b r M) n r' M | .rt x => .ok (.rt x) M) (endQ D) from h2)).mono fun o H3 ⟨p3, F3, f, M3, a3, b3, s3, r3, _, h3⟩ => ?_⟩
      cases f with
      | nx r' =>
        cases o with
        | inl σ' => exact ⟨p3, F3, r', M3, s3, r3, h3⟩
        | inr v => exact r3.elim
      | rt d =>
        cases o with
        | inl σ' => exact r3.elim
        | inr v => exact (show endQ D (Sum.inr v) H3 from Tk.ok (v := Sum.inr v) (show Tk X.K ca (relF X.K) W G p3 F3 (.ok (.rt d) M3) (endQ D) from h3) s3 r3)
def forBody (P : Pg) (C : Cal) (tg : Tg) (b : List Sm) (d : D) (r : En) (M : Ar) : Res Fl := match asg tg d M r with
  | none => .stuck
  | some r' => evB P C b r' M
theorem for_turn {K : PySem.W.Frag} {tg : Tg} {b : List Sm} {p : List Addr} {F G H : Hp} {r : En} {M : Ar} {σ : L2.St} {d : D} {x : V} {nxt : En → Ar → Res Fl} {D : Ends} {Nx : L2.St → Hp → Prop} (sr : SR K ca p F G M H) (er : ER K p F r σ) (rd : RD K p F d x)
    (h : Tk K ca (relF K) W G p F ((forBody P C tg b d r M).bind fun f M => match f with | .nx r' => nxt r' M | .rt x => .ok (.rt x) M) (endQ D))
    (hn : ∀ σ' H' p' F' r' M', Pre p p' → Sub F F' → SR K ca p' F' G M' H' → ER K p' F' r' σ' → Tk K ca (relF K) W G p' F' (nxt r' M') (endQ D) → Nx σ' H') :
    TGo K ca tg x σ H fun σ2 H2 => TSo K ca W (evB P C b) { D with nx := Nx, ct := Nx, bk := D.nx } σ2 H2 := by
  unfold forBody at h
  cases q : asg tg d M r with
  | none => simp only [q] at h; exact h.elim
  | some r' =>
    simp only [q] at h
    refine ⟨p, F, G, M, d, r, r', sr, er, rd, q, fun σ2 er2 _ => ⟨p, F, G, r', M, sr, er2, (Tk.bind (rel := relF K) h).mono fun o H3 ⟨p3, F3, f, M3, a3, b3, s3, r3, _, h3⟩ => ?_⟩⟩
    cases f with
    | nx r'' =>
      cases o with
      | inl σ' => exact hn σ' H3 p3 F3 r'' M3 a3 b3 s3 r3 h3
      | inr v => exact r3.elim
    | rt dd =>
      cases o with
      | inl σ' => exact r3.elim
      | inr v => exact (show endQ D (Sum.inr v) H3 from Tk.ok (v := Sum.inr v) (show Tk K ca (relF K) W G p3 F3 (.ok (.rt dd) M3) (endQ D) from h3) s3 r3)
theorem t_for {tg : Tg} {s : Sr} {b : List Sm} {tg' it : Expr} {b' : List Stmt} {pos : Pos} (hp : PassesOwn (model X.prog X.w) X.A X.env X.xe) (hc : X.calm = true) (hi : SI P ca C X W tg' s it) (hg : PG X tg' (TGo X.K ca tg)) (hb : SSs P ca C X W b b') (hs : noSet it = true) : SS P ca C X W (.for tg s b) (.For tg' it b' [] pos) := by
  refine PS.imp (ps_for hp hc hi hg hb (noSet_ok hs _)) fun D σ H h => ?_
  obtain ⟨p, F, G, r, M, sr, er, h⟩ := h
  have h' : Tk X.K ca (relF X.K) W G p F ((evSr P C s r M).bind fun I M => forI (forBody P C tg b) I r M) (endQ D) := h
  refine ⟨p, F, G, r, M, sr, er, (Tk.bind (rel := ItR X.K ca) h').mono fun J H1 ⟨p1, F1, I, M1, a1, b1, s1, itr, _, h1⟩ => ?_⟩
  have er1 := er.sub a1 b1
  cases I with
  | fix l =>
    have itr : ItF X.K ca l p1 F1 J := itr
    refine ⟨fun i m σ H => ∃ p' F' r' M', Pre p1 p' ∧ Sub F1 F' ∧ SR X.K ca p' F' G M' H ∧ ER X.K p' F' r' σ ∧ i ≤ l.length ∧ m = l.length - i ∧ Tk X.K ca (relF X.K) W G p' F' (forF (forBody P C tg b) (l.drop i) r' M') (endQ D),
      ⟨l.length, p1, F1, r, M1, Pre.refl _, Sub.refl _, s1, er1, Nat.zero_le _, by simp, h1⟩, ?_⟩
    rintro i m σ2 H2 ⟨p', F', r', M', a2, b2, s2, er2, hi, rfl, h2⟩
    obtain ⟨stop, go⟩ := itr i p' F' _ M' H2 a2 b2 s2
    by_cases hl : i < l.length
    · right
      obtain ⟨g1, g2⟩ := go l[i] (List.getElem?_eq_getElem hl)
      rw [List.drop_eq_getElem_cons hl] at h2
      refine ⟨g1, fun σ H => ∃ p' F' r' M', Pre p1 p' ∧ Sub F1 F' ∧ SR X.K ca p' F' G M' H ∧ ER X.K p' F' r' σ ∧ Tk X.K ca (relF X.K) W G p' F' (forF (forBody P C tg b) (l.drop (i + 1)) r' M') (endQ D),
        fun σ' H' ⟨p3, F3, r3, M3, z1, z2, z3, z4, z5⟩ => ⟨l.length - (i + 1), by omega, p3, F3, r3, M3, z1, z2, z3, z4, hl, rfl, z5⟩, fun x H' y => ?_⟩
      obtain ⟨F3, c1, c2, c3⟩ := g2 x H' y
      exact for_turn (nxt := fun r M => forF (forBody P C tg b) (l.drop (i + 1)) r M) c2 (er2.sub (Pre.refl _) c1) c3 (Tk.pre h2 (Pre.refl _) c1) fun σ' H'' p4 F4 r4 M4 x1 x2 x3 x4 x5 => ⟨p4, F4, r4, M4, a2.trans x1, (b2.trans c1).trans x2, x3, x4, x5⟩
    · left
      have ei : i = l.length := by omega
      refine ⟨stop (by omega), ?_⟩
      rw [ei, List.drop_length] at h2
      exact Tk.ok (v := Sum.inl σ2) (show Tk X.K ca (relF X.K) W G p' F' (.ok (.nx r') M') (endQ D) from h2) s2 er2
  | live i0 n =>
    have itr : ItL X.K ca i0 p1 J := itr
    refine ⟨fun j m σ H => ∃ p' F' r' M', Pre p1 p' ∧ Sub F1 F' ∧ SR X.K ca p' F' G M' H ∧ ER X.K p' F' r' σ ∧ Tk X.K ca (relF X.K) W G p' F' (forL (forBody P C tg b) i0 m j r' M') (endQ D),
      ⟨n + 1, p1, F1, r, M1, Pre.refl _, Sub.refl _, s1, er1, h1⟩, ?_⟩
    rintro j m σ2 H2 ⟨p', F', r', M', a2, b2, s2, er2, h2⟩
    cases m with
    | zero => exact h2.elim
    | succ m =>
      unfold forL at h2
      cases q0 : M'[i0]? with
      | none => simp only [q0] at h2; exact h2.elim
      | some ob =>
        simp only [q0] at h2
        cases ob with
        | lst l =>
          simp only at h2
          obtain ⟨stop, go⟩ := itr j p' F' _ M' H2 l a2 s2 q0
          cases q1 : l[j]? with
          | none =>
            simp only [q1] at h2
            exact .inl ⟨stop q1, Tk.ok (v := Sum.inl σ2) h2 s2 er2⟩
          | some d =>
            simp only [q1] at h2
            right
            obtain ⟨g1, g2⟩ := go d q1
            refine ⟨g1, fun σ H => ∃ p' F' r' M', Pre p1 p' ∧ Sub F1 F' ∧ SR X.K ca p' F' G M' H ∧ ER X.K p' F' r' σ ∧ Tk X.K ca (relF X.K) W G p' F' (forL (forBody P C tg b) i0 m (j + 1) r' M') (endQ D),
              fun σ' H' z => ⟨m, Nat.lt_succ_self _, z⟩, fun x H' y => ?_⟩
            obtain ⟨eH, c3⟩ := g2 x H' y
            subst eH
            exact for_turn (nxt := fun r M => forL (forBody P C tg b) i0 m (j + 1) r M) s2 er2 c3 h2 fun σ' H'' p4 F4 r4 M4 x1 x2 x3 x4 x5 => ⟨p4, F4, r4, M4, a2.trans x1, b2.trans x2, x3, x4, x5⟩
        | _ => exact h2.elim
end
end Rw
end

section
set_option Elab.async false
set_option linter.all false
set_option maxRecDepth 100000
/-! assignments that exchange their stores; the checker of statements -/
namespace Rw
open PySem PySem.Spec PyProof.Rows L2
def swPair (tg e : Expr) : Option (List Expr × List Expr) := match tg, e with
  | .Tuple ts _ _, .Tuple vs _ _ => some (ts, vs)
  | .List ts _, .Tuple vs _ _ => some (ts, vs)
  | _, _ => none
def isStar : Expr → Bool
  | .Starred .. => true
  | _ => false
def swNames (sc : Scope) (ts : List Expr) : List Str := ts.filterMap fun
  | .Name id pos => if sc.names.lookup id == some .local && pos.line == (ts.head?.map (·.pos.line)).getD 0 then some id else none
  | _ => none
def swL (sc : Scope) (ts vs : List Expr) : Option (Option (List Str)) :=
  if !(ts.length == 2 || ts.length == 3) || vs.length != ts.length then some none else
  if vs.any isStar then some none else
  if (swNames sc ts).length != ts.length || (swNames sc ts).eraseDups.length != (swNames sc ts).length then some none else
  if vs.all (foldedForSure 8) then some none else
  if vs.all (constantsAlone 8) then none else some (some (swNames sc ts))
def swC (sc : Scope) (tg e : Expr) : Option (Option (List Str)) := match swPair tg e with
  | none => some none
  | some (ts, vs) => swL sc ts vs
theorem swC_ok {env : Env} {tg e : Expr} {o : Option (List Str)} (hk : env.scope.kind = .function) (h : swC env.scope tg e = some o) : swappedStores [tg] e env = pure o := by
  have hb : env.blockKind = .function := by unfold Env.blockKind; rw [hk]; rfl
  have key : ∀ ts vs, swL env.scope ts vs = some o → (do
      if !(ts.length == 2 || ts.length == 3) || vs.length != ts.length || env.blockKind != .function then return none
      if vs.any isStar then return none
      if (swNames env.scope ts).length != ts.length || (swNames env.scope ts).eraseDups.length != (swNames env.scope ts).length then return none
      if vs.all (foldedForSure 8) then return none
      if vs.all (constantsAlone 8) then unsupported "assign.tuple-of-constant-expressions:order-of-the-stores"
      return some (swNames env.scope ts) : Sem (Option (List Str))) = pure o := by
    intro ts vs h
    unfold swL at h
    rw [hb]
    have e0 : ((ScopeKind.function != ScopeKind.function) = false) := rfl
    rw [e0, Bool.or_false]
    split at h
    · rename_i z; cases h; rw [if_pos z]
    · rename_i z
      rw [if_neg z]
      split at h
      · rename_i z; cases h; rw [if_pos z]
      · rename_i z
        split at h
        · rename_i z2; cases h; rw [if_neg z, if_pos z2]
        · rename_i z2
          split at h
          · rename_i z3; cases h; rw [if_neg z, if_neg z2, if_pos z3]
          · rename_i z3
            split at h
            · cases h
            · rename_i z4; cases h; rw [if_neg z, if_neg z2, if_neg z3, if_neg z4]
  unfold swC at h
  cases q : swPair tg e with
  | none =>
    simp only [q] at h
    cases h
    unfold swPair at q
    unfold swappedStores
    split at q
    · cases q
    · cases q
    · rename_i z1 z2
      split
      · rename_i z3
        split at z3
        · rename_i hq
          exact (z1 _ _ _ _ _ _ (List.cons.inj hq).1 rfl).elim
        · rename_i hq
          exact (z2 _ _ _ _ _ (List.cons.inj hq).1 rfl).elim
        · cases z3
      · rfl
  | some pq =>
    obtain ⟨ts, vs⟩ := pq
    simp only [q] at h
    rw [← key ts vs h]
    unfold swPair at q
    split at q
    · cases q; rfl
    · cases q; rfl
    · cases q

theorem asgs_two {i j : Nat} {a b : D} {M : Ar} {r r' : En} (h : asgs [.var i, .var j] [a, b] M r = some r') : i < r.length ∧ j < r.length ∧ r' = (r.set i (some a)).set j (some b) := by
  simp only [asgs, asg] at h
  by_cases hi : i < r.length
  · simp only [if_pos hi, List.length_set] at h
    by_cases hj : j < r.length
    · simp only [if_pos hj] at h
      cases h
      exact ⟨hi, hj, rfl⟩
    · simp only [if_neg hj] at h; cases h
  · simp only [if_neg hi] at h; cases h
theorem asgs_three {i j l : Nat} {a b c : D} {M : Ar} {r r' : En} (h : asgs [.var i, .var j, .var l] [a, b, c] M r = some r') : r' = ((r.set i (some a)).set j (some b)).set l (some c) := by
  simp only [asgs, asg] at h
  by_cases hi : i < r.length
  · simp only [if_pos hi, List.length_set] at h
    by_cases hj : j < r.length
    · simp only [if_pos hj, List.length_set] at h
      by_cases hl : l < r.length
      · simp only [if_pos hl] at h
        cases h
        rfl
      · simp only [if_neg hl] at h; cases h
    · simp only [if_neg hj] at h; cases h
  · simp only [if_neg hi] at h; cases h
theorem allT_map : ∀ {l : List D} {ts : List T}, allT l = some ts → ts.map D.t = l
  | [], ts, h => by unfold allT at h; cases h; rfl
  | .t x :: l, ts, h => by
    unfold allT at h
    cases q : allT l with
    | none => simp only [q] at h; cases h
    | some us =>
      simp only [q] at h
      cases h
      rw [List.map_cons, allT_map q]
  | .ref _ :: _, ts, h => by unfold allT at h; cases h
  | .tup _ :: _, ts, h => by unfold allT at h; cases h
  | .lst _ :: _, ts, h => by unfold allT at h; cases h
theorem tpOf_frzT (l : List D) : tpOf (frzT l) = some l := by
  unfold frzT
  cases q : allT l with
  | none => rfl
  | some ts => show some (ts.map D.t) = some l; rw [allT_map q]
section
variable {P : Pg} {fns : Nat → Option Fn} {ca fa : Nat → Addr} {fdt : Nat → FuncData} {C : Cal} {k : Nat} {X : Cx} {N : List Str} {sc : Scope} {W : XK}
theorem tup_step {ts : List Tg} {es : List Ex} {D : Ends} {σ : L2.St} {H : Hp} (h : TSo X.K ca W (evS P C (.asg (.tup ts) (.tuple es))) D σ H) :
    TAo X.K ca W (evEs P C es) σ H fun vs H1 => ∃ p F G M ds r r', SR X.K ca p F G M H1 ∧ ER X.K p F r σ ∧ RDs X.K p F ds vs ∧ ds.length = es.length ∧ asgs ts ds M r = some r' ∧ ∀ σ', ER X.K p F r' σ' → D.nx σ' H1 := by
  obtain ⟨p, F, G, r, M, sr, er, h⟩ := h
  have h : Tk X.K ca (relF X.K) W G p F ((evE P C (.tuple es) r M).bind fun d M => match asg (.tup ts) d M r with
    | some r' => .ok (.nx r') M
    | none => .stuck) (endQ D) := h
  have h : Tk X.K ca (relF X.K) W G p F (((evEs P C es r M).bind fun ds M => okIf (decide (ds.length ≤ line)) (.ok (frzT ds) M)).bind fun d M => match asg (.tup ts) d M r with
    | some r' => .ok (.nx r') M
    | none => .stuck) (endQ D) := by unfold evE at h; exact h
  rw [Res.bind_assoc] at h
  refine ⟨p, F, G, r, M, sr, er, (Tk.bind (rel := RDs X.K) h).mono fun vs H1 ⟨p1, F1, ds, M1, a1, b1, s1, r1, q1, h1⟩ => ?_⟩
  cases q0 : decide (ds.length ≤ line) with
  | false => rw [q0] at h1; exact h1.elim
  | true =>
    rw [q0] at h1
    have h1 : Tk X.K ca (relF X.K) W G p1 F1 (match asg (.tup ts) (frzT ds) M1 r with
      | some r' => .ok (.nx r') M1
      | none => .stuck) (endQ D) := h1
    have ea : asg (.tup ts) (frzT ds) M1 r = asgs ts ds M1 r := by unfold asg; rw [tpOf_frzT]
    rw [ea] at h1
    cases q : asgs ts ds M1 r with
    | none => simp only [q] at h1; exact h1.elim
    | some r' =>
      simp only [q] at h1
      exact ⟨p1, F1, G, M1, ds, r, r', s1, er.sub a1 b1, r1, call_step.evEs_len q1, q, fun σ' er' => Tk.ok (v := Sum.inl σ') h1 s1 er'⟩
theorem t_par2 (g : Good P fns ca fa fdt C k X N sc W) {i j : Nat} {es : List Ex} {x y : Str} {a b : Expr} {px py pt pos : Pos} {kt k2 pt2} (hl : es.length = 2) (hi : N[i]? = some x) (hj : N[j]? = some y) (hij : i ≠ j)
    (hx : sc.names.lookup x = some .local) (hy : sc.names.lookup y = some .local) (ha : SA P ca C X W es [a, b]) (hw : swappedStores [.Tuple [.Name x px, .Name y py] kt pt] (.Tuple [a, b] k2 pt2) X.env = pure (some [x, y])) :
    SS P ca C X W (.asg (.tup [.var i, .var j]) (.tuple es)) (.Assign [.Tuple [.Name x px, .Name y py] kt pt] (.Tuple [a, b] k2 pt2) pos) := by
  refine PS.imp (ps_par g.calm (by rw [g.hN]; exact g.nd) (by rw [g.hN]; exact hi) (by rw [g.hN]; exact hj) hij (by rw [g.hsc]; exact hx) (by rw [g.hsc]; exact hy) ha hw rfl) fun D σ H h => ?_
  obtain ⟨p, F, G, r, M, sr, er, h⟩ := tup_step h
  refine ⟨p, F, G, r, M, sr, er, h.mono fun vs H1 ⟨p1, F1, G1, M1, ds, r1, r', s1, er1, rd, ld, q, hh⟩ => ?_⟩
  match ds, rd, ld, q with
  | [d1, d2], ⟨v, w, e1, rv, w1, w2, e2, rw2, e3⟩, _, q =>
    subst e3 e2 e1
    obtain ⟨l1, l2, er'⟩ := asgs_two q
    subst er'
    exact ⟨v, w1, rfl, hh _ ((er1.set rv).set rw2)⟩
  | [], _, ld, _ => rw [hl] at ld; cases ld
  | [_], _, ld, _ => rw [hl] at ld; cases ld
  | _ :: _ :: _ :: _, _, ld, _ => rw [hl] at ld; simp at ld
theorem t_par3 (g : Good P fns ca fa fdt C k X N sc W) {i j l : Nat} {es : List Ex} {x y z : Str} {a b c : Expr} {px py pz pt pos : Pos} {kt k2 pt2} (hl : es.length = 3) (hi : N[i]? = some x) (hj : N[j]? = some y) (hz : N[l]? = some z) (hij : i ≠ j) (hil : i ≠ l) (hjl : j ≠ l)
    (hx : sc.names.lookup x = some .local) (hy : sc.names.lookup y = some .local) (hz' : sc.names.lookup z = some .local) (ha : SA P ca C X W es [a, b, c]) (hw : swappedStores [.Tuple [.Name x px, .Name y py, .Name z pz] kt pt] (.Tuple [a, b, c] k2 pt2) X.env = pure (some [x, y, z])) :
    SS P ca C X W (.asg (.tup [.var i, .var j, .var l]) (.tuple es)) (.Assign [.Tuple [.Name x px, .Name y py, .Name z pz] kt pt] (.Tuple [a, b, c] k2 pt2) pos) := by
  refine PS.imp (ps_par3 g.calm (by rw [g.hN]; exact g.nd) (by rw [g.hN]; exact hi) (by rw [g.hN]; exact hj) (by rw [g.hN]; exact hz) hij hil hjl (by rw [g.hsc]; exact hx) (by rw [g.hsc]; exact hy) (by rw [g.hsc]; exact hz') ha hw rfl) fun D σ H h => ?_
  obtain ⟨p, F, G, r, M, sr, er, h⟩ := tup_step h
  refine ⟨p, F, G, r, M, sr, er, h.mono fun vs H1 ⟨p1, F1, G1, M1, ds, r1, r', s1, er1, rd, ld, q, hh⟩ => ?_⟩
  match ds, rd, ld, q with
  | [d1, d2, d3], ⟨v, w, e1, rv, v2, w2, e2, rv2, v3, w3, e3, rv3, e4⟩, _, q =>
    subst e4 e3 e2 e1
    have er' := asgs_three q
    subst er'
    exact ⟨v, v2, v3, rfl, hh _ (((er1.set rv).set rv2).set rv3)⟩
  | [], _, ld, _ => rw [hl] at ld; cases ld
  | [_], _, ld, _ => rw [hl] at ld; cases ld
  | [_, _], _, ld, _ => rw [hl] at ld; cases ld
  | _ :: _ :: _ :: _ :: _, _, ld, _ => rw [hl] at ld; simp at ld
theorem var_step {i : Nat} {x : V} {σ : L2.St} {H : Hp} {Q : L2.St → Hp → Prop} (h : TGo X.K ca (.var i) x σ H Q) : gName i x σ H Q := by
  obtain ⟨p, F, G, M, d, r, r', sr, er, rd, e1, q⟩ := h
  unfold asg at e1
  split at e1
  · cases e1
    refine q _ (er.set rd) ⟨by rw [List.length_set], fun j hj => ?_⟩
    rw [List.getElem?_set_ne]
    intro z
    exact hj (by simp [Tg.slots, z])
  · cases e1
theorem t_setLc (g : Good P fns ca fa fdt C k X N sc W) (hk : X.env.scope.kind = .function) {i : Nat} {mu : Bool} {tg : Tg} {s : Sr} {c : Option Ex} {e0 : Ex} {y : Str} {py : Pos} {e' tg' it : Expr} {ifs : List Expr} {scope : Scope} {pos spos : Pos}
    (hy : N[i]? = some y) (hl : sc.names.lookup y = some .local) (hln : (py.line == pos.line) = true) (ha : (scope.names.any fun (n, k) => n == y && (k == .local || k == .cell)) = false)
    (h1 : noSet it = true) (h2 : tg.slots.all (fun i => decide (i < N.length)) = true) (h3 : blkC N sc scope (ownOf N tg.slots) = true) (h4 : chkTg N (relS scope sc) (blkFb scope) tg tg' = true) (h5 : chkSr P fns N sc s tg' it = true) (h6 : chkC P fns N (relS scope sc) c ifs = true) (h7 : chkE P fns N (relS scope sc) e0 e' = true) :
    SS P ca C X W (.asg (.var i) (.comp mu tg s c e0)) (.Assign [.Name y py] (.ListComp e' [⟨tg', it, ifs, 0⟩] scope pos) spos) := by
  refine PS.imp (ps_setLc (own := ownOf N tg.slots) (g := TGo X.K ca tg) (tt := TTo X.K ca W0 (evC P C c)) (te := TEo X.K ca W0 (evE P C e0)) g.calm (by rw [g.hN]; exact g.nd) (by rw [g.hN]; exact hy) (by rw [g.hsc]; exact hl) (sw_true hk (by rw [g.hsc]; exact hl) hln ha) (soundSr s X sc W tg' it g h5) (by rw [g.hN, g.hsc]; exact blkOk_by h3) (fun s1 H1 C1 cl fp => ?_) (fun s1 H1 C1 cl fp => ?_) (fun s1 H1 C1 cl fp => ?_) (noSet_ok h1 _)) fun D σ H h => ?_
  · have g' := g.blk s1 H1 scope C1 cl fp
    exact s_tg (X := X.blk s1 H1 scope (compEnvC scope cl C1 X.env) fp) g'.hN g'.nd g'.hsc g'.calm (fun x hx => blkFb_ok hx) tg tg' h4
  · exact soundC c (X.blk s1 H1 scope (compEnvC scope cl C1 X.env) fp) (relS scope sc) W0 ifs (g.blk s1 H1 scope C1 cl fp) h6
  · exact (soundE e0 (X.blk s1 H1 scope (compEnvC scope cl C1 X.env) fp) (relS scope sc) W0 e' (g.blk s1 H1 scope C1 cl fp) h7).1
  · rw [ownOf_map h2]
    obtain ⟨p, F, G, r, M, sr, er, h⟩ := asg_step h
    exact comp_step ⟨p, F, G, r, M, sr, er, h.mono fun x H1 q => var_step q⟩
end
end Rw
end

section
set_option Elab.async false
set_option linter.all false
set_option maxRecDepth 100000
/-! the checker of statements and its soundness -/
namespace Rw
open PySem PySem.Spec PyProof.Rows L2
/-- the assignment of a comprehension to a name exchanges its stores -/
def swB (sc : Scope) (y : Str) (py : Pos) (scope : Scope) (pos : Pos) : Bool := (sc.names.lookup y == some .local) && (py.line == pos.line) && !(scope.names.any fun (n, k) => n == y && (k == .local || k == .cell))
def swN (sc : Scope) (tg e : Expr) : Bool := match e with
  | .ListComp _ _ scope pos => (match tg with
    | .Name y py => !swB sc y py scope pos
    | .Tuple .. => true
    | _ => false)
  | .SetComp .. => false
  | .DictComp .. => false
  | _ => true
theorem swN_ok {env : Env} {tg e : Expr} {l : Nat} (h : swN env.scope tg e = true) (hk : env.scope.kind = .function) : swapsWithSole [tg] e l env = pure false := by
  have hb : env.blockKind = .function := by unfold Env.blockKind; rw [hk]; rfl
  show swapsWith e (some tg) l env = pure false
  by_cases hc : noComp e = true
  · exact noComp_ok hc _ _ _
  · cases e with
    | ListComp a gs scope pos =>
      cases tg with
      | Name y py =>
        have h' : swB env.scope y py scope pos = false := by simpa [swN] using h
        unfold swapsWith
        show (pure (env.blockKind == .function && env.kindOf y == some .local && py.line == pos.line && !(scope.names.any fun (n, k) => n == y && (k == .local || k == .cell))) : Sem Bool) = pure false
        rw [hb]
        have e2 : ((ScopeKind.function == ScopeKind.function) = true) := rfl
        rw [e2, Bool.true_and]
        exact congrArg pure h'
      | Tuple => rfl
      | _ => cases h
    | SetComp => cases h
    | DictComp => cases h
    | _ => exact (hc rfl).elim
def okNone : Option (Option (List Str)) → Bool
  | some none => true
  | _ => false
theorem okNone_ok {o : Option (Option (List Str))} (h : okNone o = true) : o = some none := by
  unfold okNone at h
  split at h
  · rfl
  · cases h
def par2 (sc : Scope) (x y : Str) (o : Option (Option (List Str))) : Bool := decide (o = some (some [x, y])) && decide (sc.names.lookup x = some .local) && decide (sc.names.lookup y = some .local)
def par3 (sc : Scope) (x y z : Str) (o : Option (Option (List Str))) : Bool := decide (o = some (some [x, y, z])) && decide (sc.names.lookup x = some .local) && decide (sc.names.lookup y = some .local) && decide (sc.names.lookup z = some .local)
def chkSwap (P : Pg) (fns : Nat → Option Fn) (N : List Str) (sc : Scope) : Tg → Ex → Expr → Expr → Bool
  | .var i, .comp _ tg s c e, tg0, e0 => (match tg0, e0 with
    | .Name y py, .ListComp e' [⟨tg', it, ifs, 0⟩] scope pos => decide (N[i]? = some y) && swB sc y py scope pos && noSet it && tg.slots.all (fun i => decide (i < N.length)) && blkC N sc scope (ownOf N tg.slots) && chkTg N (relS scope sc) (blkFb scope) tg tg' && chkSr P fns N sc s tg' it && chkC P fns N (relS scope sc) c ifs && chkE P fns N (relS scope sc) e e'
    | _, _ => false)
  | .tup [.var i, .var j], .tuple es, tg0, e0 => (match tg0, e0 with
    | .Tuple [.Name x px, .Name y py] kt pt, .Tuple [a, b] k2 pt2 => decide (N[i]? = some x) && decide (N[j]? = some y) && decide (i ≠ j) && par2 sc x y (swC sc (.Tuple [.Name x px, .Name y py] kt pt) (.Tuple [a, b] k2 pt2)) && chkEs P fns N sc es [a, b] && [a, b].all noStar
    | _, _ => false)
  | .tup [.var i, .var j, .var l], .tuple es, tg0, e0 => (match tg0, e0 with
    | .Tuple [.Name x px, .Name y py, .Name z pz] kt pt, .Tuple [a, b, c] k2 pt2 => decide (N[i]? = some x) && decide (N[j]? = some y) && decide (N[l]? = some z) && decide (i ≠ j) && decide (i ≠ l) && decide (j ≠ l) && par3 sc x y z (swC sc (.Tuple [.Name x px, .Name y py, .Name z pz] kt pt) (.Tuple [a, b, c] k2 pt2)) && chkEs P fns N sc es [a, b, c] && [a, b, c].all noStar
    | _, _ => false)
  | _, _, _, _ => false
def chkAsg (P : Pg) (fns : Nat → Option Fn) (N : List Str) (sc : Scope) (tg : Tg) (e : Ex) (tg' e' : Expr) : Bool :=
  (swN sc tg' e' && okNone (swC sc tg' e') && chkTg N sc (fun _ => true) tg tg' && chkE P fns N sc e e') || chkSwap P fns N sc tg e tg' e'
mutual
def chkS (P : Pg) (fns : Nat → Option Fn) (N : List Str) (sc : Scope) : Sm → Stmt → Bool
  | .asg tg e, s0 => (match s0 with
    | .Assign [tg'] e' _ => chkAsg P fns N sc tg e tg' e'
    | _ => false)
  | .fld c o f e, s0 => (match s0 with
    | .Assign [.Attribute o' f' _] e' _ => decide (f' = f) && decide ((c, f) ∈ P.flds) && chkE P fns N sc o o' && chkE P fns N sc e e'
    | _ => false)
  | .sub o i e, s0 => (match s0 with
    | .Assign [.Subscript o' i' _] e' _ => noSlice i' && chkE P fns N sc o o' && chkE P fns N sc i i' && chkE P fns N sc e e'
    | _ => false)
  | .expr e, s0 => (match s0 with
    | .Expr e' _ => noComp e' && chkE P fns N sc e e'
    | _ => false)
  | .ret o, s0 => (match o, s0 with
    | none, .Return none _ => true
    | some e, .Return (some e') _ => chkE P fns N sc e e'
    | _, _ => false)
  | .ite c a b, s0 => (match s0 with
    | .If c' a' b' _ => noIf c' && chkE P fns N sc c c' && chkB P fns N sc a a' && chkB P fns N sc b b'
    | _ => false)
  | .for tg s b, s0 => (match s0 with
    | .For tg' it b' [] _ => noSet it && chkTg N sc (fun _ => true) tg tg' && chkSr P fns N sc s tg' it && chkB P fns N sc b b'
    | _ => false)
  | .whl c b, s0 => (match s0 with
    | .While c' b' [] _ => noIf c' && chkE P fns N sc c c' && chkB P fns N sc b b'
    | _ => false)
  | .raise _ _ _, _ => true
def chkB (P : Pg) (fns : Nat → Option Fn) (N : List Str) (sc : Scope) : List Sm → List Stmt → Bool
  | [], [] => true
  | s :: ss, s' :: ss' => chkS P fns N sc s s' && chkB P fns N sc ss ss'
  | _, _ => false
end
section
variable {P : Pg} {fns : Nat → Option Fn} {ca fa : Nat → Addr} {fdt : Nat → FuncData} {C : Cal} {k : Nat} {X : Cx} {N : List Str} {sc : Scope} {W : XK}
/-- where a statement stands -/
structure GoodS (P : Pg) (fns : Nat → Option Fn) (ca fa : Nat → Addr) (fdt : Nat → FuncData) (C : Cal) (k : Nat) (X : Cx) (N : List Str) (sc : Scope) (W : XK) : Prop where
  g : Good P fns ca fa fdt C k X N sc W
  fn : ∀ x, X.fn x = true
  pass : PassesOwn (model X.prog X.w) X.A X.env X.xe
  kind : sc.kind = .function
theorem t_swap (G : GoodS P fns ca fa fdt C k X N sc W) {tg : Tg} {e : Ex} {tg' e' : Expr} {pos : Pos} (h : chkSwap P fns N sc tg e tg' e' = true) : SS P ca C X W (.asg tg e) (.Assign [tg'] e' pos) := by
  have g := G.g
  have hk : X.env.scope.kind = .function := by rw [g.hsc]; exact G.kind
  unfold chkSwap at h
  split at h
  · split at h
    · obtain ⟨h, h9⟩ := ba2 h
      obtain ⟨h, h8⟩ := ba2 h
      obtain ⟨h, h7⟩ := ba2 h
      obtain ⟨h, h6⟩ := ba2 h
      obtain ⟨h, h5⟩ := ba2 h
      obtain ⟨h, h4⟩ := ba2 h
      obtain ⟨h, h3⟩ := ba2 h
      obtain ⟨h1, h2⟩ := ba2 h
      unfold swB at h2
      obtain ⟨h2, z3⟩ := ba2 h2
      obtain ⟨z1, z2⟩ := ba2 h2
      exact t_setLc g hk (of_decide_eq_true h1) (by simpa using z1) z2 (nb z3) h3 h4 h5 h6 h7 h8 h9
    · cases h
  · split at h
    · obtain ⟨h, h6⟩ := ba2 h
      obtain ⟨h, h5⟩ := ba2 h
      obtain ⟨h, h4⟩ := ba2 h
      obtain ⟨h, h3⟩ := ba2 h
      obtain ⟨h1, h2⟩ := ba2 h
      unfold par2 at h4
      obtain ⟨h4, z3⟩ := ba2 h4
      obtain ⟨z1, z2⟩ := ba2 h4
      have B := soundEs _ X sc W _ g h5
      exact t_par2 g (by rw [B.len]; rfl) (of_decide_eq_true h1) (of_decide_eq_true h2) (of_decide_eq_true h3) (of_decide_eq_true z2) (of_decide_eq_true z3) (B.sa h6) (swC_ok hk (by rw [g.hsc]; exact of_decide_eq_true z1))
    · cases h
  · split at h
    · obtain ⟨h, h9⟩ := ba2 h
      obtain ⟨h, h8⟩ := ba2 h
      obtain ⟨h, h7⟩ := ba2 h
      obtain ⟨h, h6⟩ := ba2 h
      obtain ⟨h, h5⟩ := ba2 h
      obtain ⟨h, h4⟩ := ba2 h
      obtain ⟨h, h3⟩ := ba2 h
      obtain ⟨h1, h2⟩ := ba2 h
      unfold par3 at h7
      obtain ⟨h7, z4⟩ := ba2 h7
      obtain ⟨h7, z3⟩ := ba2 h7
      obtain ⟨z1, z2⟩ := ba2 h7
      have B := soundEs _ X sc W _ g h8
      exact t_par3 g (by rw [B.len]; rfl) (of_decide_eq_true h1) (of_decide_eq_true h2) (of_decide_eq_true h3) (of_decide_eq_true h4) (of_decide_eq_true h5) (of_decide_eq_true h6) (of_decide_eq_true z2) (of_decide_eq_true z3) (of_decide_eq_true z4) (B.sa h9) (swC_ok hk (by rw [g.hsc]; exact of_decide_eq_true z1))
    · cases h
  · cases h
theorem t_asgAll (G : GoodS P fns ca fa fdt C k X N sc W) {tg : Tg} {e : Ex} {tg' e' : Expr} {pos : Pos} (h : chkAsg P fns N sc tg e tg' e' = true) : SS P ca C X W (.asg tg e) (.Assign [tg'] e' pos) := by
  have g := G.g
  have hk : X.env.scope.kind = .function := by rw [g.hsc]; exact G.kind
  unfold chkAsg at h
  rcases Bool.or_eq_true_iff.mp h with h | h
  · obtain ⟨h, h4⟩ := ba2 h
    obtain ⟨h, h3⟩ := ba2 h
    obtain ⟨h1, h2⟩ := ba2 h
    refine t_asg (s_tg g.hN g.nd g.hsc g.calm (fun x _ => G.fn x) tg tg' h3) (soundE e X sc W e' g h4).1 (swN_ok (by rw [g.hsc]; exact h1) hk) (swC_ok hk (by rw [g.hsc]; exact okNone_ok h2)) ?_
    rw [tg_plain h3]
    rfl
  · exact t_swap G h
mutual
theorem soundS (G : GoodS P fns ca fa fdt C k X N sc W) : ∀ (x : Sm) (e : Stmt), chkS P fns N sc x e = true → SS P ca C X W x e
  | .asg tg e, s0, h => by
    unfold chkS at h
    split at h
    · exact t_asgAll G h
    · cases h
  | .fld c o f e, s0, h => by
    unfold chkS at h
    split at h
    · obtain ⟨h, h4⟩ := ba2 h
      obtain ⟨h, h3⟩ := ba2 h
      obtain ⟨h1, h2⟩ := ba2 h
      have e1 := of_decide_eq_true h1
      subst e1
      exact t_fld G.g (of_decide_eq_true h2) (soundE o X sc W _ G.g h3).1 (soundE e X sc W _ G.g h4).1
    · cases h
  | .sub o i e, s0, h => by
    unfold chkS at h
    split at h
    · rename_i o' i' p' e' pos
      obtain ⟨h, h4⟩ := ba2 h
      obtain ⟨h, h3⟩ := ba2 h
      obtain ⟨h1, h2⟩ := ba2 h
      exact t_sub (show swapsWith e' (some (.Subscript o' i' p')) pos.line X.env = pure false by cases e' <;> rfl) h1 (soundE o X sc W _ G.g h2).1 (soundE i X sc W _ G.g h3).1 (soundE e X sc W _ G.g h4).1
    · cases h
  | .expr e, s0, h => by
    unfold chkS at h
    split at h
    · obtain ⟨h1, h2⟩ := ba2 h
      exact t_expr h1 (soundE e X sc W _ G.g h2).1
    · cases h
  | .ret none, s0, h => by
    unfold chkS at h
    split at h
    · exact t_retN
    · contradiction
    · cases h
  | .ret (some e), s0, h => by
    unfold chkS at h
    split at h
    · contradiction
    · rename_i e0 e' pos heq
      cases heq
      exact t_ret (soundE e X sc W _ G.g h).1
    · cases h
  | .ite c a b, s0, h => by
    unfold chkS at h
    split at h
    · obtain ⟨h, h4⟩ := ba2 h
      obtain ⟨h, h3⟩ := ba2 h
      obtain ⟨h1, h2⟩ := ba2 h
      exact t_ite ((soundE c X sc W _ G.g h2).2 h1) (soundB G a _ h3) (soundB G b _ h4)
    · cases h
  | .for tg s b, s0, h => by
    unfold chkS at h
    split at h
    · obtain ⟨h, h4⟩ := ba2 h
      obtain ⟨h, h3⟩ := ba2 h
      obtain ⟨h1, h2⟩ := ba2 h
      exact t_for G.pass G.g.calm (soundSr s X sc W _ _ G.g h3) (s_tg G.g.hN G.g.nd G.g.hsc G.g.calm (fun x _ => G.fn x) tg _ h2) (soundB G b _ h4) h1
    · cases h
  | .whl c b, s0, h => by
    unfold chkS at h
    split at h
    · obtain ⟨h, h3⟩ := ba2 h
      obtain ⟨h1, h2⟩ := ba2 h
      exact t_whl G.pass ((soundE c X sc W _ G.g h2).2 h1) (soundB G b _ h3)
    · cases h
  | .raise _ _ _, s0, h => ⟨fun pins s σ H D I q => by
      obtain ⟨p, F, G, r, M, sr, er, q⟩ := q
      unfold evS at q
      exact q.elim⟩
theorem soundB (G : GoodS P fns ca fa fdt C k X N sc W) : ∀ (x : List Sm) (e : List Stmt), chkB P fns N sc x e = true → SSs P ca C X W x e
  | [], [], _ => t_nil
  | [], _ :: _, h => by unfold chkB at h; cases h
  | _ :: _, [], h => by unfold chkB at h; cases h
  | s :: ss, e :: es, h => by
    unfold chkB at h
    obtain ⟨h1, h2⟩ := ba2 h
    exact t_cons (soundS G s e h1) (soundB G ss es h2)
end
end
end Rw
end

section
set_option Elab.async false
set_option linter.all false
set_option maxRecDepth 100000
/-! every def keeps its promise -/
namespace Rw
open PySem PySem.Spec PyProof.Rows L2
/-- a def as the module holds it -/
structure Src where
  x : Str
  qual : Str
  params : Arguments
  body : List Stmt
  scope : Scope
def parB (sc : Scope) (x : Str) : Bool := match sc.names.lookup x with
  | some .local => true
  | some .cell => true
  | _ => false
def isFree : NameKind → Bool
  | .free => true
  | _ => false
def isFunK : ScopeKind → Bool
  | .function => true
  | _ => false
def scopeB (N ps : List Str) (sc : Scope) : Bool := isFunK sc.kind && !sc.isCoroutine && !sc.isGenerator && decide N.Nodup && decide (N.take ps.length = ps) && ps.all (parB sc) && sc.names.all (fun y => !isFree y.2)
theorem scopeB_ok {N ps : List Str} {sc : Scope} (h : scopeB N ps sc = true) : FnScope N ps sc := by
  unfold scopeB at h
  obtain ⟨h, h7⟩ := ba2 h
  obtain ⟨h, h6⟩ := ba2 h
  obtain ⟨h, h5⟩ := ba2 h
  obtain ⟨h, h4⟩ := ba2 h
  obtain ⟨h, h3⟩ := ba2 h
  obtain ⟨h1, h2⟩ := ba2 h
  refine ⟨?_, nb h2, nb h3, of_decide_eq_true h4, of_decide_eq_true h5, fun x hx => ?_, fun y hy z => ?_⟩
  · unfold isFunK at h1
    split at h1
    · assumption
    · cases h1
  · have := List.all_eq_true.mp h6 x hx
    unfold parB at this
    split at this
    · exact .inl (by assumption)
    · exact .inr (by assumption)
    · cases this
  · have := List.all_eq_true.mp h7 y hy
    rw [z] at this
    cases this
def fnC (P : Pg) (fns : Nat → Option Fn) (fn : Fn) (d : Src) : Bool := scopeB fn.names (fn.names.take fn.np) d.scope && chkB P fns fn.names d.scope fn.body d.body
theorem er_start {K : PySem.W.Frag} {p : List Addr} {F : Hp} {N : List Str} : ∀ {ds : List D} {vs : List V}, RDs K p F ds vs → ER K p F (ds.map some ++ List.replicate (N.length - ds.length) none) (L2.start N vs) := by
  intro ds vs h
  have hl := h.length
  refine ⟨by unfold L2.start; simp [hl], fun i d q => ?_⟩
  by_cases hi : i < ds.length
  · rw [List.getElem?_append_left (by simpa using hi), List.getElem?_map] at q
    cases qd : ds[i]? with
    | none => rw [qd] at q; cases q
    | some d' =>
      rw [qd] at q
      cases q
      obtain ⟨v, e1, e2⟩ := h.get qd
      refine ⟨v, ?_, e2⟩
      unfold L2.start
      rw [List.getElem?_append_left (by simpa [← hl] using hi), List.getElem?_map, e1]
      rfl
  · rw [List.getElem?_append_right (by simpa using hi), List.getElem?_replicate] at q
    split at q
    · cases q
    · cases q
section
variable {P : Pg} {fns : Nat → Option Fn} {ca fa : Nat → Addr} {fdt : Nat → FuncData} {prog : Program} {w : World} {K : PySem.W.Frag} {mg : Str → Option Value} {base : Heap}
theorem fn_zero {n : Nat} {f : Nat} {fn : Fn} (hn : (fn.names.take fn.np).length = fn.np) : FnOk prog w K mg base (L2.CX prog w) n (fa f) (fdt f) (fn.names.take fn.np) (spF K ca (run P fns 0) f fn.np) := by
  refine ⟨fun vs H Q E h => by rw [hn]; exact h.1, ?_⟩
  intros
  rename_i h
  obtain ⟨_, p, F, G, M, ds, _, _, z⟩ := h
  exact z.elim
theorem all_fns (fx : Facts P fns w K mg ca fa fdt) (src : Nat → Src) (hF : ∀ f fn, fns f = some fn → FunD K (src f).x (src f).qual (src f).params (src f).body (src f).scope [] [] (fa f) (fdt f))
    (hC : ∀ f fn, fns f = some fn → fnC P fns fn (src f) = true) : ∀ (n f : Nat) (fn : Fn), fns f = some fn → FnOk prog w K mg base (L2.CX prog w) (2 * n) (fa f) (fdt f) (fn.names.take fn.np) (spF K ca (run P fns n) f fn.np)
  | 0, f, fn, e => fn_zero (fx.npl f fn e)
  | n + 1, f, fn, e => by
    obtain ⟨c1, c2⟩ := ba2 (hC f fn e)
    have S := scopeB_ok c1
    have hn := fx.npl f fn e
    refine FunD.ok (N := fn.names) (k := 2 * n + 1) (hF f fn e) S (fun vs H Q E h => by rw [hn]; exact h.1) fun cdv A outer s H vs Q E hr hsp => ?_
    obtain ⟨hl, p, F, G, M, ds, sr, rd, h⟩ := hsp
    have G0 : GoodS P fns ca fa fdt (run P fns n) (2 * n) (cxOf (L2.CX prog w) prog w K mg base fn.names (src f).qual (src f).scope (fa f) cdv A outer s H E) fn.names (src f).scope E :=
      ⟨⟨rfl, S.nd, rfl, rfl, hr, fx, fun f' fn' e' => all_fns fx src hF hC n f' fn' e', takes_of rfl rfl rfl rfl⟩, fun _ => rfl, passes_of rfl, S.kind⟩
    refine ⟨_, soundB G0 fn.body _ c2, p, F, G, ds.map some ++ List.replicate (fn.names.length - ds.length) none, M, sr, er_start rd, ?_⟩
    have ld : ds.length = fn.np := by rw [rd.length]; exact hl
    unfold run at h
    simp only [e] at h
    unfold fnV at h
    rw [decide_eq_true ld] at h
    simp only at h
    refine (Tk.bind (rel := relF K) h).mono fun o H1 ⟨p1, F1, x, M1, a1, b1, s1, r1, _, h1⟩ => ?_
    cases x with
    | nx r' =>
      cases o with
      | inl σ => exact Tk.ok (v := V.non) h1 s1 (show RD K p1 F1 (.t .non) .non from (show RT K F1 .non .non from rfl))
      | inr v => exact r1.elim
    | rt d =>
      cases o with
      | inl σ => exact r1.elim
      | inr v => exact Tk.ok (v := v) h1 s1 r1
end
end Rw
end

section
set_option Elab.async false
set_option linter.all false
set_option maxRecDepth 100000
/-! the facts, from the head -/
namespace Rw
open PySem PySem.Spec PyProof.Rows L2
/-- one def of the program: its number, its text, how the module holds it, where -/
structure PE where
  id : Nat
  fn : Fn
  src : Src
  at_ : Str × Option Str
def PE.toDef (e : PE) : He.DefD := ⟨e.at_, e.src.x, e.src.qual, e.src.params, e.src.body, e.src.scope, [], []⟩
def getE : List PE → Nat → Option PE
  | [], _ => none
  | e :: r, f => match Nat.beq e.id f with
    | true => some e
    | false => getE r f
theorem getE_mem : ∀ {L : List PE} {f : Nat} {e : PE}, getE L f = some e → e ∈ L
  | [], _, _, h => by cases h
  | a :: r, f, e, h => by
    unfold getE at h
    split at h
    · cases h; exact List.mem_cons_self
    · exact List.mem_cons_of_mem _ (getE_mem h)
def fnsOf (L : List PE) (f : Nat) : Option Fn := (getE L f).map (·.fn)
def noSrc : Src := ⟨Str.empty, Str.empty, ⟨[], [], none, [], [], none, []⟩, [], ⟨.function, [], false, false, []⟩⟩
def srcOf (L : List PE) (f : Nat) : Src := match getE L f with
  | some e => e.src
  | none => noSrc
def locOf (L : List PE) (f : Nat) : Str × Option Str := match getE L f with
  | some e => e.at_
  | none => (Str.empty, none)
def cnOf (cn : List (Nat × Str)) (c : Nat) : Str := (cn.lookup c).getD Str.empty
def hasC (cn : List (Nat × Str)) (c : Nat) : Bool := (cn.lookup c).isSome
theorem lookup_mem {α : Type} {c : Nat} {x : α} : ∀ {l : List (Nat × α)}, l.lookup c = some x → (c, x) ∈ l
  | [], h => by cases h
  | (d, y) :: r, h => by
    unfold List.lookup at h
    split at h
    · rename_i q; cases h; rw [beq_iff_eq.mp q]; exact List.mem_cons_self
    · exact List.mem_cons_of_mem _ (lookup_mem h)
theorem hasC_mem {cn : List (Nat × Str)} {c : Nat} (h : hasC cn c = true) : (c, cnOf cn c) ∈ cn := by
  unfold hasC at h
  cases q : cn.lookup c with
  | none => rw [q] at h; cases h
  | some x =>
    unfold cnOf
    rw [q]
    exact lookup_mem q
def builtinNames : List Str := ["len", "int", "list", "tuple", "isinstance", "bool", "min", "max", "range", "enumerate"]
def faL (P : Pg) (cn : List (Nat × Str)) : List He.Fa :=
  builtinNames.map .free ++ (P.gname.map (fun q => .glo q.2) ++ (P.tabs.map (fun q => .glo q.1) ++ (cn.map (fun q => .cls q.2) ++ (P.flds.map (fun q => .noat (cnOf cn q.1) q.2) ++ (P.meths.map (fun q => .meth (cnOf cn q.1) q.2.1) ++ (P.makes.map (fun q => .glo q.2.1) ++ P.makes.map (fun q => .mkr q.2.1)))))))
def tsL (P : Pg) : List He.Tab := P.tabs.map fun q => (fun K => He.ga K q.1, q.2.map (·.1))
/-! constants -/
mutual
def rtB (K : PySem.W.Frag) : T → Value → Bool
  | .non, u => (match u with
    | .none => true
    | _ => false)
  | .bl b, u => (match u with
    | .bool c => b == c
    | _ => false)
  | .int i, u => (match u with
    | .int j _ => decide (i = j)
    | _ => false)
  | .str x, u => (match u with
    | .str y _ => decide (x = y)
    | _ => false)
  | .tup l, u => (match u with
    | .ref a => (match K.lookup a with
      | some ⟨.type c, _, .seq its _, _⟩ => decide (c = "tuple") && (decide (its.size ≤ sizeLine) && rtBs K l its.toList)
      | _ => false)
    | _ => false)
  | .lst _, _ => false
  | .scr _, _ => false
def rtBs (K : PySem.W.Frag) : List T → List Value → Bool
  | [], us => (match us with
    | [] => true
    | _ => false)
  | t :: r, us => (match us with
    | u :: us => rtB K t u && rtBs K r us
    | _ => false)
end
mutual
theorem rtB_ok {K : PySem.W.Frag} : ∀ {t : T} {u : Value}, rtB K t u = true → ∃ v, RelV v u ∧ ∀ F, RT K F t v
  | .non, u, h => by
    unfold rtB at h
    split at h
    · exact ⟨.non, rfl, fun _ => rfl⟩
    · cases h
  | .bl b, u, h => by
    unfold rtB at h
    split at h
    · have e := eq_of_beq h; subst e; exact ⟨.bl b, rfl, fun _ => rfl⟩
    · cases h
  | .int i, u, h => by
    unfold rtB at h
    split at h
    · have e := of_decide_eq_true h; subst e; exact ⟨.int i, ⟨_, rfl⟩, fun _ => rfl⟩
    · cases h
  | .str i, u, h => by
    unfold rtB at h
    split at h
    · have e := of_decide_eq_true h; subst e; exact ⟨.str i, ⟨_, rfl⟩, fun _ => rfl⟩
    · cases h
  | .tup l, u, h => by
    unfold rtB at h
    split at h
    · split at h
      · rename_i a _ c od its n sl q
        obtain ⟨h1, h2⟩ := ba2 h
        obtain ⟨h3, h4⟩ := ba2 h2
        obtain ⟨vs, e1, e2⟩ := rtBs_ok h4
        exact ⟨.ref a, rfl, fun F => ⟨a, vs, rfl, .inr ⟨_, its, n, q, congrArg Value.type (of_decide_eq_true h1), rfl, of_decide_eq_true h3, e1⟩, e2 F⟩⟩
      · cases h
    · cases h
  | .lst _, u, h => by unfold rtB at h; cases h
  | .scr _, u, h => by unfold rtB at h; cases h
theorem rtBs_ok {K : PySem.W.Frag} : ∀ {l : List T} {us : List Value}, rtBs K l us = true → ∃ vs, Vals vs us ∧ ∀ F, RTs K F l vs
  | [], us, h => by
    unfold rtBs at h
    split at h
    · exact ⟨[], .nil, fun _ => rfl⟩
    · cases h
  | t :: r, us, h => by
    unfold rtBs at h
    split at h
    · obtain ⟨h1, h2⟩ := ba2 h
      obtain ⟨v, e1, e2⟩ := rtB_ok h1
      obtain ⟨vs, e3, e4⟩ := rtBs_ok h2
      exact ⟨v :: vs, .cons e1 e3, fun F => ⟨v, vs, rfl, e2 F, e4 F⟩⟩
    · cases h
end
def pairB (K : PySem.W.Frag) : List DictEntry → List (Str × T) → Bool
  | [], [] => true
  | e :: es, q :: l => (match e.key with
    | .str x _ => decide (x = q.1)
    | _ => false) && rtB K q.2 e.val && pairB K es l
  | _, _ => false
theorem pairB_ok {K : PySem.W.Frag} : ∀ {es : List DictEntry} {l : List (Str × T)}, pairB K es l = true → Paired (fun (e : DictEntry) (q : Str × T) => (∃ t, e.key = .str q.1 t) ∧ ∃ v, RelV v e.val ∧ ∀ F, RT K F q.2 v) es l
  | [], [], _ => .nil
  | [], _ :: _, h => by cases h
  | _ :: _, [], h => by cases h
  | e :: es, q :: l, h => by
    unfold pairB at h
    obtain ⟨h, h3⟩ := ba2 h
    obtain ⟨h1, h2⟩ := ba2 h
    refine .cons ⟨?_, rtB_ok h2⟩ (pairB_ok h3)
    split at h1
    · rename_i x t q1
      have e1 := of_decide_eq_true h1
      subst e1
      exact ⟨t, q1⟩
    · cases h1
def exB (P : Pg) (K : PySem.W.Frag) : Bool := (P.consts.all fun q => match PySem.W.nsIn K mainGlobals q.1 with
    | some (some u) => rtB K q.2 u
    | _ => false) && P.tabs.all fun q => match K.lookup (He.ga K q.1) with
    | some ⟨_, _, .dict es _, _⟩ => pairB K es.toList q.2
    | _ => false
def saneB (P : Pg) (L : List PE) (cn : List (Nat × Str)) : Bool :=
  (P.gname.all fun q => decide (locOf L q.1 = (q.2, none)) && (getE L q.1).isSome) && ((P.meths.all fun q => decide (locOf L q.2.2 = (cnOf cn q.1, some q.2.1)) && hasC cn q.1) &&
  ((P.makes.all fun q => decide (locOf L q.2.2 = (q.2.1, some ("__init__" : Str))) && decide (cnOf cn q.1 = q.2.1)) && ((P.flds.all fun q => hasC cn q.1) && L.all fun e => decide ((e.fn.names.take e.fn.np).length = e.fn.np))))
def BindsEq (s : Src) (ps : List Str) : Prop := ∀ (kV doc pm : Value) (an : Option Addr) (cdv ct : Value) (us : List Value), us.length = ps.length → bindArgs (PySem.W.fnOf s.x s.qual s.params s.body s.scope .none kV doc pm an cdv ct) ⟨us, []⟩ = pure (ps.zip us)
def faOf (K : PySem.W.Frag) (L : List PE) (f : Nat) : Addr := He.fAd K (locOf L f)
def caOf (K : PySem.W.Frag) (cn : List (Nat × Str)) (c : Nat) : Addr := He.ga K (cnOf cn c)
theorem fns_get {L : List PE} {f : Nat} {fn : Fn} (h : fnsOf L f = some fn) : ∃ e, getE L f = some e ∧ e.fn = fn := by
  unfold fnsOf at h
  cases q : getE L f with
  | none => rw [q] at h; cases h
  | some e => rw [q] at h; exact ⟨e, rfl, Option.some.inj h⟩
theorem facts_of {P : Pg} {L : List PE} {cn : List (Nat × Str)} {w : World} {K : PySem.W.Frag} {h hh : Heap} {mg : Str → Option Value} (X : K.In h) (G : h.Ns mainGlobals mg) (c : He.SaysX (faL P cn) (L.map PE.toDef) (tsL P) [] (exB P) w hh K) (sn : saneB P L cn = true)
    (hb : ∀ e ∈ L, BindsEq e.src (e.fn.names.take e.fn.np)) :
    ∃ fdt : Nat → FuncData, Facts P (fnsOf L) w K mg (caOf K cn) (faOf K L) fdt ∧ ∀ f fn, fnsOf L f = some fn → FunD K (srcOf L f).x (srcOf L f).qual (srcOf L f).params (srcOf L f).body (srcOf L f).scope [] [] (faOf K L f) (fdt f) := by
  have cd := c.t.d
  have fact : ∀ f, f ∈ faL P cn → f.ok K = true := fun f hf => cd.facts hf
  have ex : ∀ f, ∃ fd, ∀ fn, fnsOf L f = some fn → FunD K (srcOf L f).x (srcOf L f).qual (srcOf L f).params (srcOf L f).body (srcOf L f).scope [] [] (faOf K L f) fd := fun f => by
    cases q : getE L f with
    | none =>
      refine ⟨PySem.W.fnOf Str.empty Str.empty noSrc.params [] noSrc.scope .none .none .none .none none .none .none, fun fn e => ?_⟩
      unfold fnsOf at e
      rw [q] at e
      cases e
    | some e =>
      obtain ⟨fd, F⟩ := cd.defs (d := e.toDef) (List.mem_map_of_mem (getE_mem q))
      refine ⟨fd, fun fn _ => ?_⟩
      unfold srcOf faOf locOf
      rw [q]
      exact F
  obtain ⟨fdt, hF⟩ : ∃ fdt : Nat → FuncData, ∀ f fn, fnsOf L f = some fn → FunD K (srcOf L f).x (srcOf L f).qual (srcOf L f).params (srcOf L f).body (srcOf L f).scope [] [] (faOf K L f) (fdt f) := ⟨fun f => Classical.choose (ex f), fun f => Classical.choose_spec (ex f)⟩
  unfold saneB at sn
  obtain ⟨s1, sn⟩ := ba2 sn
  obtain ⟨s2, sn⟩ := ba2 sn
  obtain ⟨s3, sn⟩ := ba2 sn
  obtain ⟨s4, s5⟩ := ba2 sn
  refine ⟨fdt, ⟨?_, ?_, ?_, ?_, ?_, ?_, ?_, ?_, ?_⟩, hF⟩
  · intro x hx
    refine He.free_ok X G (fact (.free x) ?_)
    unfold faL
    exact List.mem_append_left _ (List.mem_map_of_mem hx)
  · intro n x t e
    have := (ba2 c.more).1
    have h2 := List.all_eq_true.mp this (x, t) (List.mem_of_getElem? e)
    cases q : PySem.W.nsIn K mainGlobals x with
    | none => simp only [q] at h2; cases h2
    | some o =>
      cases o with
      | none => simp only [q] at h2; cases h2
      | some u =>
        simp only [q] at h2
        obtain ⟨v, e1, e2⟩ := rtB_ok h2
        exact ⟨u, v, PySem.W.mg_of X G q, e1, e2⟩
  · intro n x l e
    have hm : (x, l) ∈ P.tabs := List.mem_of_getElem? e
    have g := He.glo_ok X G (fact (.glo x) (by
      unfold faL
      exact List.mem_append_right _ (List.mem_append_right _ (List.mem_append_left _ (List.mem_map.mpr ⟨(x, l), hm, rfl⟩)))))
    have ht : (tsL P)[n]? = some (fun K => He.ga K x, l.map (·.1)) := by
      unfold tsL
      rw [List.getElem?_map, e]
      rfl
    obtain ⟨es, m, kd⟩ := c.t.tab n ht
    have h2 := List.all_eq_true.mp (ba2 c.more).2 (x, l) hm
    have kd' : KDict K w (He.ga K x) es m := kd
    simp only [kd'.at_] at h2
    exact ⟨He.ga K x, es, m, g, kd', pairB_ok h2⟩
  · intro f x hm
    have z := List.all_eq_true.mp s1 (f, x) hm
    obtain ⟨z1, z2⟩ := ba2 z
    have z1 := of_decide_eq_true z1
    have g := He.glo_ok X G (fact (.glo x) (by
      unfold faL
      exact List.mem_append_right _ (List.mem_append_left _ (List.mem_map.mpr ⟨(f, x), hm, rfl⟩))))
    have ef : faOf K L f = He.ga K x := by unfold faOf; rw [z1]; rfl
    rw [ef]
    refine ⟨g, ?_⟩
    cases q : getE L f with
    | none => rw [q] at z2; cases z2
    | some e =>
      have := (hF f e.fn (by unfold fnsOf; rw [q]; rfl)).kp
      rw [ef] at this
      exact this
  · intro k f hm
    have z := List.all_eq_true.mp s4 (k, f) hm
    have a := fact (.cls (cnOf cn k)) (by
      unfold faL
      exact List.mem_append_right _ (List.mem_append_right _ (List.mem_append_right _ (List.mem_append_left _ (List.mem_map.mpr ⟨(k, cnOf cn k), hasC_mem z, rfl⟩)))))
    have b := fact (.noat (cnOf cn k) f) (by
      unfold faL
      exact List.mem_append_right _ (List.mem_append_right _ (List.mem_append_right _ (List.mem_append_right _ (List.mem_append_left _ (List.mem_map.mpr ⟨(k, f), hm, rfl⟩))))))
    exact ⟨He.cls_ok a, He.noat_ok b⟩
  · intro k m f hm
    have z := List.all_eq_true.mp s2 (k, m, f) hm
    obtain ⟨z1, z2⟩ := ba2 z
    have z1 := of_decide_eq_true z1
    have a := fact (.cls (cnOf cn k)) (by
      unfold faL
      exact List.mem_append_right _ (List.mem_append_right _ (List.mem_append_right _ (List.mem_append_left _ (List.mem_map.mpr ⟨(k, cnOf cn k), hasC_mem z2, rfl⟩)))))
    have b := fact (.meth (cnOf cn k) m) (by
      unfold faL
      exact List.mem_append_right _ (List.mem_append_right _ (List.mem_append_right _ (List.mem_append_right _ (List.mem_append_right _ (List.mem_append_left _ (List.mem_map.mpr ⟨(k, m, f), hm, rfl⟩)))))))
    have ef : faOf K L f = He.ma K (He.ga K (cnOf cn k)) m := by unfold faOf; rw [z1]; rfl
    rw [ef]
    exact ⟨He.cls_ok a, He.meth_ok b⟩
  · intro k x f hm
    have z := List.all_eq_true.mp s3 (k, x, f) hm
    obtain ⟨z1, z2⟩ := ba2 z
    have z1 := of_decide_eq_true z1
    have z2 := of_decide_eq_true z2
    have a := He.glo_ok X G (fact (.glo x) (by
      unfold faL
      exact List.mem_append_right _ (List.mem_append_right _ (List.mem_append_right _ (List.mem_append_right _ (List.mem_append_right _ (List.mem_append_right _ (List.mem_append_left _ (List.mem_map.mpr ⟨(k, x, f), hm, rfl⟩)))))))))
    have b := fact (.mkr x) (by
      unfold faL
      exact List.mem_append_right _ (List.mem_append_right _ (List.mem_append_right _ (List.mem_append_right _ (List.mem_append_right _ (List.mem_append_right _ (List.mem_append_right _ (List.mem_map.mpr ⟨(k, x, f), hm, rfl⟩))))))))
    have ef : faOf K L f = He.ma K (He.ga K x) "__init__" := by unfold faOf; rw [z1]; rfl
    have ec : caOf K cn k = He.ga K x := by unfold caOf; rw [show cnOf cn k = x from z2]
    rw [ef, ec]
    exact ⟨a, He.mkr_ok b⟩
  · intro f fn e
    obtain ⟨en, q, rfl⟩ := fns_get e
    refine (hF f en.fn e).bindsN ?_
    unfold srcOf
    rw [q]
    exact hb en (getE_mem q)
  · intro f fn e
    obtain ⟨en, q, rfl⟩ := fns_get e
    have z := List.all_eq_true.mp s5 en (getE_mem q)
    exact of_decide_eq_true z
theorem law_of {P : Pg} {L : List PE} {K : PySem.W.Frag} {ca : Nat → Addr} {n f : Nat} {H : Hp} {a : Addr} {ns : List Int} {M : Ar} (hS : SqL K H a (ns.map V.int)) (hr : run P (fnsOf L) n f [.t (.scr ns)] [] = .ok (.t (.bl true)) M) :
    spF K ca (run P (fnsOf L) n) f 1 [.ref a] H (fun v _ => v = .bl true) fun _ _ _ => False := by
  refine ⟨rfl, [], H, fun _ => none, [], [.t (.scr ns)], ⟨rfl, List.nodup_nil, Sub.refl _, (fun a o e => by cases e), fun a => .inr rfl, (fun a h => nomatch h), (fun a h => nomatch h), fun i a o h => by simp at h⟩, ⟨_, _, rfl, (show RT K H (.scr ns) (.ref a) from ⟨a, rfl, hS⟩), rfl⟩, ?_⟩
  rw [hr]
  intro p' F' H' v _ _ _ r
  exact r
/-- the end of a law: what leaves a def may hang on the world -/
theorem walk_w {l : PySem.W.OpenLaw} {n k : Nat} {q : Program} {loose : List Str} {XP : (Str → Option Value) → Heap → Prop} {YP : World → Heap → Prop} {d : DefRec} {CX : World → CXT} {x : Str}
    (hn : l.most = some n) (hn2 : n ≤ sizeLine) (hdf : d.params.defaults = []) (hr : Room k callerA)
    (F : ∀ (w : World) (mg : Str → Option Value) (fa : Addr) (h : Heap), YP w h → h.Ns mainGlobals mg → mg d.name = some (.ref fa) →
      ∃ (K : PySem.W.Frag) (fd : FuncData) (sp : Sp), K.In h ∧ (∀ (s : Shared) (u : Value), BindsTo s fd ⟨[u], []⟩ [(x, u)]) ∧
        (∀ (H : Hp) (a : Addr) (ns : List Int), ns.length ≤ n → Only H → SqL K H a (ns.map V.int) → sp [.ref a] H (fun v _ => v = .bl true) fun _ _ _ => False) ∧
        ∀ base : Heap, K.In base → base.Ns mainGlobals mg → FnOk l.prog w K mg base (CX w) k fa fd [x] sp)
    (hCX : ∀ (w : World) (H : Hp) (s : Shared) (e : Value) (s' : Shared), CX w [] H s (fun _ _ _ => False) e s' → False) :
    PySem.W.WalkO q loose XP YP l.row.toRowW d [] (fun f vs => PySem.call f vs) := by
  refine Att.attach_call hn hdf fun w s0 s1 mg mb fa o pm cd doc a vs ns G Y ho hd hcd hmg hobj hints hlen hg => ?_
  obtain ⟨K, fd, sp, KX, hb, hsp, hF⟩ := F w mg fa _ Y G.T.g hmg
  exact law_call KX G.T.g G.T.b G.T.builtins G.T.nolimit hg hobj hints (Nat.le_trans hlen hn2) hr hF hb (fun H hO hS => hsp H a ns hlen hO hS) fun H e s' => hCX w H s1 e s'
theorem no_cx {prog : Program} {w : World} {H : Hp} {s : Shared} {e : Value} {s' : Shared} (h : L2.CX prog w [] H s (fun _ _ _ => False) e s') : False := by
  obtain ⟨a, B, H', cls, d, _, _, _, _, _, _, _, z⟩ := h
  exact z
end Rw
end

section
set_option Elab.async false
set_option linter.all false
set_option maxRecDepth 100000
/-! plain: what the evaluator answers -/
namespace Rw
open PySem
theorem ofString_inj (s t : String) : (Str.ofString s = Str.ofString t) = (s = t) := by
  refine propext ⟨fun h => ?_, fun h => by rw [h]⟩
  rw [Str.ofString_eq_toList, Str.ofString_eq_toList] at h
  have h1 : s.toList.map Char.toNat = t.toList.map Char.toNat := by
    have := congrArg Str.cps h
    exact List.toArray_inj this
  have h2 : s.toList = t.toList := by
    refine List.map_inj_right (f := Char.toNat) (fun a b e => ?_) |>.mp h1
    exact Char.toNat_inj.mp e
  exact String.toList_inj.mp h2
theorem strOk_ofString (s : String) : PyData.strOk (Str.ofString s) = true := by
  unfold PyData.strOk
  rw [Str.ofString_eq_toList]
  rw [Array.all_eq_true_iff_forall_mem]
  intro x hx
  obtain ⟨c, _, e⟩ := List.mem_map.mp (by simpa using hx)
  subst e
  have h := c.valid
  simp only [UInt32.isValidChar, Nat.isValidChar] at h
  have : c.toNat = c.val.toNat := rfl
  simp only [decide_eq_true_eq]
  omega
theorem beq_ofString (s t : String) : (Str.ofString s == Str.ofString t) = decide (s = t) := by
  rw [show (Str.ofString s == Str.ofString t) = decide (Str.ofString s = Str.ofString t) from rfl]
  exact decide_eq_decide.mpr (by rw [ofString_inj])
theorem eq_int (M : Ar) (i j : Int) (k : Bool → Bool) : eqV2 M (.t (.int i)) (.t (.int j)) k = .ok (.t (.bl (k (decide (i = j))))) M := rfl
theorem eq_str (M : Ar) (s t : String) (k : Bool → Bool) : eqV2 M (.t (.str (Str.ofString s))) (.t (.str (Str.ofString t))) k = .ok (.t (.bl (k (decide (s = t))))) M := by
  have a : SeqAt.shaped (.str (Str.ofString s)) = true := by unfold SeqAt.shaped; rw [show PyData.canLay0 (.str (Str.ofString s)) = PyData.strOk (Str.ofString s) by simp [PyData.canLay0], strOk_ofString]; rfl
  have b : SeqAt.shaped (.str (Str.ofString t)) = true := by unfold SeqAt.shaped; rw [show PyData.canLay0 (.str (Str.ofString t)) = PyData.strOk (Str.ofString t) by simp [PyData.canLay0], strOk_ofString]; rfl
  show okIf (SeqAt.shaped (.str (Str.ofString s)) && SeqAt.shaped (.str (Str.ofString t))) _ = _
  rw [a, b]
  show Res.ok (D.t (T.bl (k (Str.ofString s == Str.ofString t)))) M = _
  rw [beq_ofString]
/-- ints as a closed list -/
def tl (l : List Int) : T := .lst (l.map T.int)
def il (l : List Int) : List D := l.map fun i => D.t (.int i)
theorem toPys_ints : ∀ l : List Int, toPys (l.map T.int) = l.map PyData.int
  | [] => rfl
  | a :: l => by show PyData.int a :: toPys (l.map T.int) = _; rw [toPys_ints l]; rfl
theorem shaped_ints (l : List Int) : SeqAt.shaped (.list (l.map PyData.int)) = true := by
  have a : ∀ l : List Int, PyData.canLayAll0 (l.map PyData.int) = true := fun l => by
    induction l with
    | nil => simp [PyData.canLayAll0]
    | cons x l ih => simp [PyData.canLayAll0, PyData.canLay0, ih]
  have b : ∀ l : List Int, PyData.depthAll (l.map PyData.int) = 0 := fun l => by
    induction l with
    | nil => simp [PyData.depthAll]
    | cons x l ih => simp [PyData.depthAll, PyData.depth, ih]
  unfold SeqAt.shaped
  simp [PyData.canLay0, PyData.depth, a, b]
theorem eqvAll_ints : ∀ l m : List Int, PyData.eqvAll (l.map PyData.int) (m.map PyData.int) = decide (l = m)
  | [], [] => by simp [PyData.eqvAll]
  | [], _ :: _ => by simp [PyData.eqvAll]
  | _ :: _, [] => by simp [PyData.eqvAll]
  | a :: l, b :: m => by
    simp only [List.map_cons, PyData.eqvAll, PyData.eqv, eqvAll_ints l m]
    by_cases h : a = b <;> simp [h]
theorem eq_tl (M : Ar) (l m : List Int) (k : Bool → Bool) : eqV2 M (.t (tl l)) (.t (tl m)) k = .ok (.t (.bl (k (decide (l = m))))) M := by
  show okIf (SeqAt.shaped (.list (toPys (l.map T.int))) && SeqAt.shaped (.list (toPys (m.map T.int)))) (Res.ok (D.t (T.bl (k (PyData.eqv (.list (toPys (l.map T.int))) (.list (toPys (m.map T.int))))))) M) = _
  rw [toPys_ints, toPys_ints, shaped_ints, shaped_ints]
  show Res.ok (D.t (T.bl (k (PyData.eqv (.list _) (.list _))))) M = _
  simp only [PyData.eqv, eqvAll_ints]
theorem allT_il : ∀ l : List Int, allT (il l) = some (l.map T.int)
  | [] => rfl
  | a :: l => by show (match allT (il l) with | some r => some (T.int a :: r) | none => none) = _; rw [allT_il l]; rfl
theorem frzL_il (l : List Int) : frzL (il l) = .t (tl l) := by unfold frzL; rw [allT_il]; rfl
theorem lsOf_tl (M : Ar) (l : List Int) : lsOf M (.t (tl l)) = some (il l) := by
  show some ((l.map T.int).map D.t) = some (il l)
  rw [List.map_map]; rfl
theorem il_len (l : List Int) : (il l).length = l.length := by simp [il]
theorem il_app (l m : List Int) : il l ++ il m = il (l ++ m) := by simp [il]
theorem il_get (l : List Int) (j : Nat) : (il l)[j]? = (l[j]?).map fun i => D.t (.int i) := by simp [il]
theorem il_set (l : List Int) (j : Nat) (i : Int) : (il l).set j (.t (.int i)) = il (l.set j i) := by simp [il, List.map_set]
theorem ixN_pos {n : Nat} {i : Int} (h0 : 0 ≤ i) (h1 : i < n) : L2.ixN n i = some i.toNat := by unfold L2.ixN; rw [if_pos h0, if_pos h1]
theorem atI_il {l : List Int} {i : Int} (h0 : 0 ≤ i) (h1 : i < l.length) : L2.atI (il l) i = some (.t (.int (l.getD i.toNat 0))) := by
  unfold L2.atI
  rw [il_len, ixN_pos h0 h1]
  show (il l)[i.toNat]? = _
  have : i.toNat < l.length := by omega
  rw [il_get, List.getElem?_eq_getElem this, List.getD_eq_getElem?_getD, List.getElem?_eq_getElem this]
  rfl
theorem bind_ite {α β : Type} (c : Prop) [Decidable c] (a b : Res α) (f : α → Ar → Res β) : (if c then a else b).bind f = if c then a.bind f else b.bind f := by split <;> rfl
/-! loops -/
theorem forF_ok {b : D → En → Ar → Res Fl} (I : En → Ar → Prop) : ∀ (l : List D) (r : En) (M : Ar), (∀ d ∈ l, ∀ r M, I r M → ∃ r' M', b d r M = .ok (.nx r') M' ∧ I r' M') → I r M → ∃ r' M', forF b l r M = .ok (.nx r') M' ∧ I r' M'
  | [], r, M, _, h => ⟨r, M, rfl, h⟩
  | d :: l, r, M, hb, h => by
    obtain ⟨r1, M1, e1, h1⟩ := hb d List.mem_cons_self r M h
    obtain ⟨r2, M2, e2, h2⟩ := forF_ok I l r1 M1 (fun d hd => hb d (List.mem_cons_of_mem _ hd)) h1
    exact ⟨r2, M2, by unfold forF; rw [e1]; exact e2, h2⟩
theorem forF_idx {b : D → En → Ar → Res Fl} (I : Nat → En → Ar → Prop) : ∀ (l : List D) (k : Nat) (r : En) (M : Ar), (∀ i d, l[i]? = some d → ∀ r M, I (k + i) r M → ∃ r' M', b d r M = .ok (.nx r') M' ∧ I (k + i + 1) r' M') → I k r M → ∃ r' M', forF b l r M = .ok (.nx r') M' ∧ I (k + l.length) r' M'
  | [], k, r, M, _, h => ⟨r, M, rfl, h⟩
  | d :: l, k, r, M, hb, h => by
    obtain ⟨r1, M1, e1, h1⟩ := hb 0 d rfl r M h
    obtain ⟨r2, M2, e2, h2⟩ := forF_idx I l (k + 1) r1 M1 (fun i d hd r M hi => by
      have := hb (i + 1) d hd r M (by rw [show k + (i + 1) = k + 1 + i by omega]; exact hi)
      rw [show k + (i + 1) + 1 = k + 1 + i + 1 by omega] at this
      exact this) h1
    refine ⟨r2, M2, by unfold forF; rw [e1]; exact e2, ?_⟩
    rw [List.length_cons, show k + (l.length + 1) = k + 1 + l.length by omega]
    exact h2
/-- while: m falls -/
theorem whl_ok {c : En → Ar → Res Bool} {b : En → Ar → Res Fl} (I : Nat → En → Ar → Prop) (Q : En → Ar → Prop)
    (hs : ∀ m r M, I m r M → (∃ M1, c r M = .ok false M1 ∧ Q r M1) ∨ ∃ M1 r' M' m', c r M = .ok true M1 ∧ b r M1 = .ok (.nx r') M' ∧ m' < m ∧ I m' r' M') :
    ∀ (m n : Nat) (r : En) (M : Ar), m < n → I m r M → ∃ r' M', whl c b n r M = .ok (.nx r') M' ∧ Q r' M' := by
  intro m
  induction m using Nat.strongRecOn with
  | ind m ih =>
    intro n r M hn hI
    cases n with
    | zero => omega
    | succ n =>
      rcases hs m r M hI with ⟨M1, e, q⟩ | ⟨M1, r', M', m', e1, e2, hm, hI'⟩
      · exact ⟨r, M1, by unfold whl; rw [e]; rfl, q⟩
      · obtain ⟨r2, M2, e3, q⟩ := ih m' hm n r' M' (by omega) hI'
        exact ⟨r2, M2, by unfold whl; rw [e1]; show ((b r M1).bind _) = _; rw [e2]; exact e3, q⟩
end Rw
namespace Rw
section
variable (P : Pg) (G : Cal)
theorem evS_asg (tg : Tg) (e : Ex) (r : En) (M : Ar) : evS P G (.asg tg e) r M = (evE P G e r M).bind fun d M => match asg tg d M r with
    | some r' => .ok (.nx r') M
    | none => .stuck := by
  simp only [evS]
  try rfl
theorem evS_fld (c : Nat) (o : Ex) (f : PySem.Str) (e : Ex) (r : En) (M : Ar) : evS P G (.fld c o f e) r M = (evE P G e r M).bind fun d M => (evE P G o r M).bind fun x M => (fldV c x f d M).bind fun _ M => .ok (.nx r) M := by simp only [evS]
theorem evS_sub (o i e : Ex) (r : En) (M : Ar) : evS P G (.sub o i e) r M = (evE P G e r M).bind fun d M => (evE P G o r M).bind fun x M => (evE P G i r M).bind fun y M => (subV x y d M).bind fun _ M => .ok (.nx r) M := by simp only [evS]
theorem evS_expr (e : Ex) (r : En) (M : Ar) : evS P G (.expr e) r M = (evE P G e r M).bind fun _ M => .ok (.nx r) M := by simp only [evS]
theorem evS_retN (r : En) (M : Ar) : evS P G (.ret none) r M = .ok (.rt (.t .non)) M := by simp only [evS]
theorem evS_ret (e : Ex) (r : En) (M : Ar) : evS P G (.ret (some e)) r M = (evE P G e r M).bind fun d M => .ok (.rt d) M := by simp only [evS]
theorem evS_ite (c : Ex) (a b : List Sm) (r : En) (M : Ar) : evS P G (.ite c a b) r M = (evT P G c r M).bind fun k M => match k with
    | true => evB P G a r M
    | false => evB P G b r M := by
  simp only [evS]
  try rfl
theorem evS_for {tg : Tg} {s : Sr} {b : List Sm} {r : En} {M M0 : Ar} {l : List D} {x : Res Fl} (h1 : evSr P G s r M = .ok (.fix l) M0) (h2 : forF (forBody P G tg b) l r M0 = x) : evS P G (.for tg s b) r M = x := by
  rw [← h2]
  simp only [evS]
  rw [h1]
  rfl
theorem evS_whl (c : Ex) (b : List Sm) (r : En) (M : Ar) : evS P G (.whl c b) r M = whl (evT P G c) (evB P G b) wfuel r M := by simp only [evS]
end
end Rw
namespace Rw
open PySem
theorem at0 {α : Type} (a : α) (l : List α) : L2.atI (a :: l) 0 = some a := by simp [L2.atI, L2.ixN]
theorem at1 {α : Type} (a b : α) (l : List α) : L2.atI (a :: b :: l) 1 = some b := by
  unfold L2.atI
  rw [ixN_pos (by decide) (by simp only [List.length_cons]; omega)]
  rfl
theorem at2 {α : Type} (a b c : α) (l : List α) : L2.atI (a :: b :: c :: l) 2 = some c := by
  unfold L2.atI
  rw [ixN_pos (by decide) (by simp only [List.length_cons]; omega)]
  rfl
theorem at3 {α : Type} (a b c d : α) (l : List α) : L2.atI (a :: b :: c :: d :: l) 3 = some d := by
  unfold L2.atI
  rw [ixN_pos (by decide) (by simp only [List.length_cons]; omega)]
  rfl
theorem tpOf_tl (l : List Int) : tpOf (.t (tl l)) = none := rfl
theorem scOf_tl (l : List Int) : scOf (.t (tl l)) = none := rfl
theorem snap_t (M : Ar) (n : Nat) (x : T) : snap M n (.t x) = some x := by cases n <;> rfl
theorem cut_il (l : List Int) (lo hi : Option Int) : cut (il l) lo hi = il (cut l lo hi) := by simp [cut, il, List.map_drop, List.map_take]
mutual
def beqT : T → T → Bool
  | .non, y => (match y with
    | .non => true
    | _ => false)
  | .bl a, y => (match y with
    | .bl b => a == b
    | _ => false)
  | .int a, y => (match y with
    | .int b => decide (a = b)
    | _ => false)
  | .str a, y => (match y with
    | .str b => decide (a = b)
    | _ => false)
  | .tup a, y => (match y with
    | .tup b => beqTs a b
    | _ => false)
  | .lst a, y => (match y with
    | .lst b => beqTs a b
    | _ => false)
  | .scr _, _ => false
def beqTs : List T → List T → Bool
  | [], y => (match y with
    | [] => true
    | _ => false)
  | a :: l, y => (match y with
    | b :: m => beqT a b && beqTs l m
    | _ => false)
end
mutual
theorem beqT_ok : ∀ (x y : T), beqT x y = true → x = y
  | .non, y, h => by unfold beqT at h; split at h; · rfl
                     · cases h
  | .bl a, y, h => by
    unfold beqT at h
    split at h
    · rw [eq_of_beq h]
    · cases h
  | .int a, y, h => by
    unfold beqT at h
    split at h
    · rw [of_decide_eq_true h]
    · cases h
  | .str a, y, h => by
    unfold beqT at h
    split at h
    · rw [of_decide_eq_true h]
    · cases h
  | .tup a, y, h => by
    unfold beqT at h
    split at h
    · rw [beqTs_ok a _ h]
    · cases h
  | .lst a, y, h => by
    unfold beqT at h
    split at h
    · rw [beqTs_ok a _ h]
    · cases h
  | .scr _, y, h => by unfold beqT at h; cases h
theorem beqTs_ok : ∀ (x y : List T), beqTs x y = true → x = y
  | [], y, h => by
    unfold beqTs at h
    split at h
    · rfl
    · cases h
  | a :: l, y, h => by
    unfold beqTs at h
    split at h
    · obtain ⟨h1, h2⟩ := ba2 h
      rw [beqT_ok a _ h1, beqTs_ok l _ h2]
    · cases h
end
/-- the answer is this tree, the arena empty -/
def okT (r : Res D) (t : T) : Bool := match r with
  | .ok (.t x) [] => beqT x t
  | _ => false
theorem okT_ok {r : Res D} {t : T} (h : okT r t = true) : r = .ok (.t t) [] := by
  unfold okT at h
  split at h
  · rw [beqT_ok _ _ h]
  · cases h
end Rw
namespace Rw
open PySem
theorem lsO_non (M : Ar) : lsOf M (.t .non) = none := rfl
theorem tpO_non : tpOf (.t .non) = none := rfl
theorem scO_non : scOf (.t .non) = none := rfl
theorem lsO_bl (M : Ar) (b : Bool) : lsOf M (.t (.bl b)) = none := rfl
theorem tpO_bl (b : Bool) : tpOf (.t (.bl b)) = none := rfl
theorem scO_bl (b : Bool) : scOf (.t (.bl b)) = none := rfl
theorem lsO_int (M : Ar) (i : Int) : lsOf M (.t (.int i)) = none := rfl
theorem tpO_int (i : Int) : tpOf (.t (.int i)) = none := rfl
theorem scO_int (i : Int) : scOf (.t (.int i)) = none := rfl
theorem lsO_str (M : Ar) (x : Str) : lsOf M (.t (.str x)) = none := rfl
theorem tpO_str (x : Str) : tpOf (.t (.str x)) = none := rfl
theorem scO_str (x : Str) : scOf (.t (.str x)) = none := rfl
theorem lsO_tup (M : Ar) (l : List T) : lsOf M (.t (.tup l)) = none := rfl
theorem tpO_tup (l : List T) : tpOf (.t (.tup l)) = some (l.map .t) := rfl
theorem scO_tup (l : List T) : scOf (.t (.tup l)) = none := rfl
theorem lsO_lst (M : Ar) (l : List T) : lsOf M (.t (.lst l)) = some (l.map .t) := rfl
theorem tpO_lst (l : List T) : tpOf (.t (.lst l)) = none := rfl
theorem scO_lst (l : List T) : scOf (.t (.lst l)) = none := rfl
theorem lsO_scr (M : Ar) (l : List Int) : lsOf M (.t (.scr l)) = none := rfl
theorem tpO_scr (l : List Int) : tpOf (.t (.scr l)) = none := rfl
theorem scO_scr (l : List Int) : scOf (.t (.scr l)) = some (l.map fun i => .t (.int i)) := rfl
theorem lsO_ref (M : Ar) (i : Nat) : lsOf M (.ref i) = (match M[i]? with
    | some (.lst l) => some l
    | _ => none) := rfl
theorem tpO_ref (i : Nat) : tpOf (.ref i) = none := rfl
theorem scO_ref (i : Nat) : scOf (.ref i) = none := rfl
theorem lsO_Dt (M : Ar) (l : List D) : lsOf M (.tup l) = none := rfl
theorem tpO_Dt (l : List D) : tpOf (.tup l) = some l := rfl
theorem scO_Dt (l : List D) : scOf (.tup l) = none := rfl
theorem lsO_Dl (M : Ar) (l : List D) : lsOf M (.lst l) = some l := rfl
theorem tpO_Dl (l : List D) : tpOf (.lst l) = none := rfl
theorem scO_Dl (l : List D) : scOf (.lst l) = none := rfl
end Rw
namespace Rw
theorem tl_fold (l : List Int) : T.lst (l.map T.int) = tl l := rfl
theorem tl0 : tl [] = .lst [] := rfl
theorem tl1 (a : Int) : tl [a] = .lst [.int a] := rfl
theorem tl2 (a b : Int) : tl [a, b] = .lst [.int a, .int b] := rfl
theorem il0 : il [] = [] := rfl
theorem il1 (a : Int) : il [a] = [.t (.int a)] := rfl
theorem il2 (a b : Int) : il [a, b] = [.t (.int a), .t (.int b)] := rfl
end Rw
end

section
set_option Elab.async false
set_option linter.all false
set_option maxRecDepth 100000
set_option maxHeartbeats 0
/-! the script's draws -/
namespace Rw
open PySem
def f_drawn : Fn := ⟨["_law_state", "_law_many", "_law_found", "_law_cell"], 2, [.ite (.cmp .gt (.idx (.var 0) (.con (.int 3))) (.con (.int 0))) [.asg (.var 2) (.bin .mod false (.idx (.var 0) (.con (.int 3))) (.var 1)),
    .sub (.var 0) (.con (.int 3)) (.bin .fdiv false (.idx (.var 0) (.con (.int 3))) (.var 1)),
    .ret (some (.var 2))] [],
    .sub (.var 0) (.con (.int 1)) (.bin .add false (.idx (.var 0) (.con (.int 1))) (.con (.int 1))),
    .ite (.cmp .le (.idx (.var 0) (.con (.int 1))) (.bi .len [(.idx (.var 0) (.con (.int 0)))])) [.asg (.var 3) (.idx (.idx (.var 0) (.con (.int 0))) (.bin .sub false (.idx (.var 0) (.con (.int 1))) (.con (.int 1)))),
    .sub (.var 0) (.con (.int 3)) (.ife (.cmp .ge (.var 3) (.bin .pow false (.con (.int 10)) (.con (.int 18)))) (.bin .fdiv false (.var 3) (.var 1)) (.con (.int 0))),
    .ret (some (.bin .mod false (.var 3) (.var 1)))] [],
    .sub (.var 0) (.con (.int 2)) (.bin .mod false (.bin .add false (.bin .mul false (.idx (.var 0) (.con (.int 2))) (.con (.int 48271))) (.con (.int 11))) (.con (.int 2147483647))),
    .ret (some (.bin .mod false (.bin .fdiv false (.idx (.var 0) (.con (.int 2))) (.con (.int 7))) (.var 1)))]⟩
def f_start_B0 : List Sm := [.asg (.var 1) (.bin .mod false (.bin .add false (.bin .add false (.bin .mul false (.var 1) (.con (.int 48271))) (.var 2)) (.con (.int 7))) (.con (.int 2147483647)))]
def f_start_L0 : Sm := .for (.var 2) (.seq (.var 0)) f_start_B0
def f_start : Fn := ⟨["_law_script", "_law_mixed", "_law_cell"], 1, [.asg (.var 1) (.con (.int 1)),
    f_start_L0,
    .ret (some (.list true [(.var 0), (.con (.int 0)), (.var 1), (.con (.int 0))]))]⟩
section
variable {P : Pg} {fns : Nat → Option Fn}
theorem run_at {k f : Nat} {fn : Fn} {ds : List D} {M : Ar} (h : fns f = some fn) : run P fns (k + 1) f ds M = fnV P (run P fns k) fn ds M := by
  show (match fns f with | none => Res.stuck | some fn => fnV P (run P fns k) fn ds M) = _
  rw [h]
def stt (ns : List Int) (p m r : Int) : MO := .lst [.t (.scr ns), .t (.int p), .t (.int m), .t (.int r)]
theorem drawn_a {k : Nat} {ns : List Int} {p m r n : Int} {rest : Ar} (hf : fns 84 = some f_drawn) (h1 : 0 < r) (h2 : 0 < n) (h3 : n < 1073741824) : run P fns (k + 1) 84 [.ref 0, .t (.int n)] (stt ns p m r :: rest) = .ok (.t (.int (r % n))) (stt ns p m (r / n) :: rest) := by
  rw [run_at hf]
  simp [fnV, evB, evS_asg, evS_fld, evS_sub, evS_expr, evS_retN, evS_ret, evS_ite, evE, evEs, evT, evAnd, evOr, evO, evC, evSr, Res.bind, okIf, idxV, sqOf, cmpV, cmpN, cmpI, truV, binV, asg, asgs, subV, mkL, mkLn, frzL, frzT, allT, isNB, at0, at1, at2, at3, L2.ixN, biV, eq_int, eq_str, line, lsOf_tl, tpOf_tl, scOf_tl, snap_t, allT_il, tl_fold, tl0, tl1, tl2, il0, il1, il2, il_len, lsO_non, tpO_non, scO_non, lsO_bl, tpO_bl, scO_bl, lsO_int, tpO_int, scO_int, lsO_str, tpO_str, scO_str, lsO_tup, tpO_tup, scO_tup, lsO_lst, tpO_lst, scO_lst, lsO_scr, tpO_scr, scO_scr, lsO_ref, tpO_ref, scO_ref, lsO_Dt, tpO_Dt, scO_Dt, lsO_Dl, tpO_Dl, scO_Dl, f_drawn, stt, h1, h2, h3]
theorem sc_len (ns : List Int) : ((ns.map fun i => D.t (.int i)).length : Int) = ns.length := by simp
theorem drawn_b {k : Nat} {ns : List Int} {p m r n : Int} {rest : Ar} (hf : fns 84 = some f_drawn) (h1 : ¬ 0 < r) (h2 : 0 < n) (h3 : n < 1073741824) (h4 : 0 ≤ p) (h5 : p + 1 ≤ ns.length) :
    ∃ c : Int, run P fns (k + 1) 84 [.ref 0, .t (.int n)] (stt ns p m r :: rest) = .ok (.t (.int (c % n))) (stt ns (p + 1) m (if 1000000000000000000 ≤ c then c / n else 0) :: rest) := by
  rw [run_at hf]
  have h6 : p.toNat < ns.length := by omega
  refine ⟨ns[p.toNat], ?_⟩
  have h7 : p < ns.length := by omega
  by_cases hc : 1000000000000000000 ≤ ns[p.toNat]
  · simp [fnV, evB, evS_asg, evS_fld, evS_sub, evS_expr, evS_retN, evS_ret, evS_ite, evE, evEs, evT, evAnd, evOr, evO, evC, evSr, Res.bind, okIf, idxV, sqOf, cmpV, cmpN, cmpI, truV, binV, asg, asgs, subV, mkL, mkLn, frzL, frzT, allT, isNB, at0, at1, at2, at3, L2.ixN, biV, eq_int, eq_str, line, lsOf_tl, tpOf_tl, scOf_tl, snap_t, allT_il, tl_fold, tl0, tl1, tl2, il0, il1, il2, il_len, lsO_non, tpO_non, scO_non, lsO_bl, tpO_bl, scO_bl, lsO_int, tpO_int, scO_int, lsO_str, tpO_str, scO_str, lsO_tup, tpO_tup, scO_tup, lsO_lst, tpO_lst, scO_lst, lsO_scr, tpO_scr, scO_scr, lsO_ref, tpO_ref, scO_ref, lsO_Dt, tpO_Dt, scO_Dt, lsO_Dl, tpO_Dl, scO_Dl, f_drawn, stt, h1, h2, h3, h4, h5, h6, h7, hc, L2.atI]
  · simp [fnV, evB, evS_asg, evS_fld, evS_sub, evS_expr, evS_retN, evS_ret, evS_ite, evE, evEs, evT, evAnd, evOr, evO, evC, evSr, Res.bind, okIf, idxV, sqOf, cmpV, cmpN, cmpI, truV, binV, asg, asgs, subV, mkL, mkLn, frzL, frzT, allT, isNB, at0, at1, at2, at3, L2.ixN, biV, eq_int, eq_str, line, lsOf_tl, tpOf_tl, scOf_tl, snap_t, allT_il, tl_fold, tl0, tl1, tl2, il0, il1, il2, il_len, lsO_non, tpO_non, scO_non, lsO_bl, tpO_bl, scO_bl, lsO_int, tpO_int, scO_int, lsO_str, tpO_str, scO_str, lsO_tup, tpO_tup, scO_tup, lsO_lst, tpO_lst, scO_lst, lsO_scr, tpO_scr, scO_scr, lsO_ref, tpO_ref, scO_ref, lsO_Dt, tpO_Dt, scO_Dt, lsO_Dl, tpO_Dl, scO_Dl, f_drawn, stt, h1, h2, h3, h4, h5, h6, h7, hc, L2.atI]
theorem drawn_c {k : Nat} {ns : List Int} {p m r n : Int} {rest : Ar} (hf : fns 84 = some f_drawn) (h1 : ¬ 0 < r) (h2 : 0 < n) (h3 : n < 1073741824) (h4 : 0 ≤ p) (h5 : ¬ p + 1 ≤ ns.length) :
    run P fns (k + 1) 84 [.ref 0, .t (.int n)] (stt ns p m r :: rest) = .ok (.t (.int ((m * 48271 + 11) % 2147483647 / 7 % n))) (stt ns (p + 1) ((m * 48271 + 11) % 2147483647) r :: rest) := by
  rw [run_at hf]
  simp [fnV, evB, evS_asg, evS_fld, evS_sub, evS_expr, evS_retN, evS_ret, evS_ite, evE, evEs, evT, evAnd, evOr, evO, evC, evSr, Res.bind, okIf, idxV, sqOf, cmpV, cmpN, cmpI, truV, binV, asg, asgs, subV, mkL, mkLn, frzL, frzT, allT, isNB, at0, at1, at2, at3, L2.ixN, biV, eq_int, eq_str, line, lsOf_tl, tpOf_tl, scOf_tl, snap_t, allT_il, tl_fold, tl0, tl1, tl2, il0, il1, il2, il_len, lsO_non, tpO_non, scO_non, lsO_bl, tpO_bl, scO_bl, lsO_int, tpO_int, scO_int, lsO_str, tpO_str, scO_str, lsO_tup, tpO_tup, scO_tup, lsO_lst, tpO_lst, scO_lst, lsO_scr, tpO_scr, scO_scr, lsO_ref, tpO_ref, scO_ref, lsO_Dt, tpO_Dt, scO_Dt, lsO_Dl, tpO_Dl, scO_Dl, f_drawn, stt, h1, h2, h3, h4, h5]
/-- the state of the draws -/
def Stt (ns : List Int) (o : MO) : Prop := ∃ p m r, o = stt ns p m r ∧ 0 ≤ p ∧ 0 ≤ m ∧ 0 ≤ r
theorem drawn_ok {k : Nat} {ns : List Int} {o : MO} {n : Int} {rest : Ar} (hf : fns 84 = some f_drawn) (hs : Stt ns o) (h2 : 0 < n) (h3 : n < 1073741824) :
    ∃ (v : Int) (o' : MO), run P fns (k + 1) 84 [.ref 0, .t (.int n)] (o :: rest) = .ok (.t (.int v)) (o' :: rest) ∧ 0 ≤ v ∧ v < n ∧ Stt ns o' := by
  obtain ⟨p, m, r, rfl, hp, hm, hr⟩ := hs
  by_cases h1 : 0 < r
  · exact ⟨_, _, drawn_a hf h1 h2 h3, Int.emod_nonneg _ (by omega), Int.emod_lt_of_pos _ h2, _, _, _, rfl, hp, hm, Int.ediv_nonneg hr (by omega)⟩
  · by_cases h5 : p + 1 ≤ ns.length
    · obtain ⟨c, e⟩ := drawn_b (k := k) (m := m) (rest := rest) (P := P) hf h1 h2 h3 hp h5
      refine ⟨_, _, e, Int.emod_nonneg _ (by omega), Int.emod_lt_of_pos _ h2, _, _, _, rfl, by omega, hm, ?_⟩
      split
      · exact Int.ediv_nonneg (by omega) (by omega)
      · exact Int.le_refl _
    · exact ⟨_, _, drawn_c hf h1 h2 h3 hp h5, Int.emod_nonneg _ (by omega), Int.emod_lt_of_pos _ h2, _, _, _, rfl, by omega, Int.emod_nonneg _ (by omega), hr⟩
theorem start_ok {k : Nat} {ns : List Int} (hf : fns 83 = some f_start) : ∃ o, run P fns (k + 1) 83 [.t (.scr ns)] [] = .ok (.ref 0) [o] ∧ Stt ns o := by
  rw [run_at hf]
  obtain ⟨r', M', e, rfl, m, x, hm, rfl⟩ := forF_ok (b := forBody P (run P fns k) (.var 2) f_start_B0) (fun r M => M = [] ∧ ∃ m x, 0 ≤ m ∧ r = [some (.t (.scr ns)), some (.t (.int m)), x]) (ns.map fun i => D.t (.int i)) [some (.t (.scr ns)), some (.t (.int 1)), none] [] (fun d hd r M h => by
      obtain ⟨rfl, m, x, hm, rfl⟩ := h
      obtain ⟨i, _, rfl⟩ := List.mem_map.mp hd
      refine ⟨[some (.t (.scr ns)), some (.t (.int ((m * 48271 + i + 7) % 2147483647))), some (.t (.int i))], [], ?_, rfl, _, _, Int.emod_nonneg _ (by omega), rfl⟩
      simp [forBody, f_start_B0, fnV, evB, evS_asg, evS_fld, evS_sub, evS_expr, evS_retN, evS_ret, evS_ite, evE, evEs, evT, evAnd, evOr, evO, evC, evSr, Res.bind, okIf, idxV, sqOf, cmpV, cmpN, cmpI, truV, binV, asg, asgs, subV, mkL, mkLn, frzL, frzT, allT, isNB, at0, at1, at2, at3, L2.ixN, biV, eq_int, eq_str, line, lsOf_tl, tpOf_tl, scOf_tl, snap_t, allT_il, tl_fold, tl0, tl1, tl2, il0, il1, il2, il_len, lsO_non, tpO_non, scO_non, lsO_bl, tpO_bl, scO_bl, lsO_int, tpO_int, scO_int, lsO_str, tpO_str, scO_str, lsO_tup, tpO_tup, scO_tup, lsO_lst, tpO_lst, scO_lst, lsO_scr, tpO_scr, scO_scr, lsO_ref, tpO_ref, scO_ref, lsO_Dt, tpO_Dt, scO_Dt, lsO_Dl, tpO_Dl, scO_Dl]) ⟨rfl, 1, none, by omega, rfl⟩
  refine ⟨stt ns 0 m 0, ?_, 0, m, 0, rfl, by omega, hm, by omega⟩
  have e2 : evS P (run P fns k) f_start_L0 [some (.t (.scr ns)), some (.t (.int 1)), none] [] = .ok (.nx [some (.t (.scr ns)), some (.t (.int m)), x]) [] := evS_for P _ (by simp [fnV, evB, evS_asg, evS_fld, evS_sub, evS_expr, evS_retN, evS_ret, evS_ite, evE, evEs, evT, evAnd, evOr, evO, evC, evSr, Res.bind, okIf, idxV, sqOf, cmpV, cmpN, cmpI, truV, binV, asg, asgs, subV, mkL, mkLn, frzL, frzT, allT, isNB, at0, at1, at2, at3, L2.ixN, biV, eq_int, eq_str, line, lsOf_tl, tpOf_tl, scOf_tl, snap_t, allT_il, tl_fold, tl0, tl1, tl2, il0, il1, il2, il_len, lsO_non, tpO_non, scO_non, lsO_bl, tpO_bl, scO_bl, lsO_int, tpO_int, scO_int, lsO_str, tpO_str, scO_str, lsO_tup, tpO_tup, scO_tup, lsO_lst, tpO_lst, scO_lst, lsO_scr, tpO_scr, scO_scr, lsO_ref, tpO_ref, scO_ref, lsO_Dt, tpO_Dt, scO_Dt, lsO_Dl, tpO_Dl, scO_Dl, srSeq]) e
  simp [fnV, evB, evS_asg, evS_fld, evS_sub, evS_expr, evS_retN, evS_ret, evS_ite, evE, evEs, evT, evAnd, evOr, evO, evC, evSr, Res.bind, okIf, idxV, sqOf, cmpV, cmpN, cmpI, truV, binV, asg, asgs, subV, mkL, mkLn, frzL, frzT, allT, isNB, at0, at1, at2, at3, L2.ixN, biV, eq_int, eq_str, line, lsOf_tl, tpOf_tl, scOf_tl, snap_t, allT_il, tl_fold, tl0, tl1, tl2, il0, il1, il2, il_len, lsO_non, tpO_non, scO_non, lsO_bl, tpO_bl, scO_bl, lsO_int, tpO_int, scO_int, lsO_str, tpO_str, scO_str, lsO_tup, tpO_tup, scO_tup, lsO_lst, tpO_lst, scO_lst, lsO_scr, tpO_scr, scO_scr, lsO_ref, tpO_ref, scO_ref, lsO_Dt, tpO_Dt, scO_Dt, lsO_Dl, tpO_Dl, scO_Dl, f_start, e2, stt]
end
end Rw
end

section
set_option Elab.async false
set_option linter.all false
set_option maxRecDepth 100000
set_option maxHeartbeats 0
namespace Rw.K02
open PySem PySem.Spec PyProof.Rows L2
abbrev R : PySem.W.OpenRow := PySem.W.OpenLaw.row PySem.Challenge.rw_rowscribe_k02_machine_step_by_step
def top (i : Nat) : Stmt := R.prog.main.body.getD i (.Pass ⟨0, 0, 0, 0⟩)
def clsB : Stmt → List Stmt
  | .ClassDef (body := b) .. => b
  | _ => []
def meth (i j : Nat) : Stmt := (clsB (top i)).getD j (.Pass ⟨0, 0, 0, 0⟩)
def srcS (x q : Str) (s : Stmt) : Src := ⟨x, q, defArgs s, defBody s, defScope s⟩
def f_is_number : Fn := ⟨["thing", "low", "high"], 3, [.ret (some (.and [(.bi .isInt [(.var 0)]), (.not (.bi .isBool [(.var 0)])), (.chain .le .le (.var 1) (.var 0) (.var 2))]))]⟩
def f_need_words_B0 : List Sm := [.ite (.or [(.cmp .eq (.var 1) (.glo 0)), (.not (.call .clean 0 [(.var 2), (.con (.int 0)), (.bin .sub false (.glo 0) (.con (.int 1)))]))]) [.raise 12 0 [(.var 1)]] []]
def f_need_words_L0 : Sm := .for (.tup [(.var 1), (.var 2)]) (.enu (.var 0)) f_need_words_B0
def f_need_words : Fn := ⟨["words", "number", "word"], 1, [f_need_words_L0]⟩
def f_kind_of_B0 : List Sm := [.asg (.tup [(.var 2), (.var 3), (.var 4)]) (.slc false (.tabGet 0 (.var 1)) (some (.con (.int 1))) none),
    .ite (.chain .le .lt (.var 2) (.var 0) (.bin .add false (.var 2) (.idx (.glo 3) (.var 3)))) [.asg (.var 5) (.bin .sub false (.var 0) (.var 2)),
    .ret (some (.tuple [(.var 1), (.idx (.list false [(.list false []), (.list false [(.var 5)]), (.list false [(.bin .fdiv false (.var 5) (.con (.int 4))), (.bin .mod false (.var 5) (.con (.int 4)))])]) (.var 3)), (.var 4), (.con .non)]))] []]
def f_kind_of_L0 : Sm := .for (.var 1) (.tab 0) f_kind_of_B0
def f_kind_of : Fn := ⟨["word", "op", "base", "many", "more", "rest"], 1, [.ite (.chain .le .lt (.glo 2) (.var 0) (.bin .add false (.glo 2) (.bin .mul false (.con (.int 4)) (.glo 1)))) [.ret (some (.tuple [(.con (.str "take")), (.list false [(.bin .fdiv false (.bin .sub false (.var 0) (.glo 2)) (.glo 1))]), (.con (.int 0)), (.bin .mod false (.bin .sub false (.var 0) (.glo 2)) (.glo 1))]))] [],
    f_kind_of_L0,
    .ret (some (.con .non))]⟩
def f_row_at : Fn := ⟨["words", "place", "found", "op", "boxes", "more", "short", "numbers"], 2, [.asg (.var 2) (.ife (.chain .le .lt (.con (.int 0)) (.var 1) (.bi .len [(.var 0)])) (.call .clean 3 [(.idx (.var 0) (.var 1))]) (.con .non)),
    .ite (.or [(.isN true (.var 2)), (.cmp .gt (.bin .add false (.bin .add false (.var 1) (.con (.int 1))) (.idx (.var 2) (.con (.int 2)))) (.bi .len [(.var 0)]))]) [.ret (some (.con .non))] [],
    .asg (.tup [(.var 3), (.var 4), (.var 5), (.var 6)]) (.var 2),
    .asg (.var 7) (.bi (.list false) [(.slc false (.var 0) (some (.bin .add false (.var 1) (.con (.int 1)))) (some (.bin .add false (.bin .add false (.var 1) (.con (.int 1))) (.var 5))))]),
    .ret (some (.tuple [(.var 3), (.var 4), (.ife (.isN false (.var 6)) (.list false [(.var 6)]) (.var 7)), (.bin .add false (.con (.int 1)) (.var 5))]))]⟩
def f_signed : Fn := ⟨["word"], 1, [.ret (some (.ife (.cmp .ge (.var 0) (.bin .fdiv false (.glo 0) (.con (.int 2)))) (.bin .sub false (.var 0) (.glo 0)) (.var 0)))]⟩
def f_goals_of : Fn := ⟨["place", "row", "op", "boxes", "numbers", "many"], 2, [.asg (.tup [(.var 2), (.var 3), (.var 4), (.var 5)]) (.var 1),
    .ite (.cmp .isIn (.var 2) (.tuple [(.con (.str "stop")), (.con (.str "back"))])) [.ret (some (.tuple [(.list false []), (.con (.bl false))]))] [],
    .ite (.cmp .eq (.var 2) (.con (.str "jump"))) [.ret (some (.tuple [(.list false [(.idx (.var 4) (.con (.int 0)))]), (.con (.bl false))]))] [],
    .ite (.cmp .eq (.var 2) (.con (.str "skip"))) [.ret (some (.tuple [(.list false [(.bin .add false (.bin .add false (.var 0) (.var 5)) (.call .clean 5 [(.idx (.var 4) (.con (.int 0)))]))]), (.con (.bl false))]))] [],
    .ret (some (.tuple [(.ife (.cmp .isIn (.var 2) (.tuple [(.con (.str "call")), (.con (.str "zero")), (.con (.str "same"))])) (.list false [(.idx (.var 4) (.con (.int 0)))]) (.list false [])), (.con (.bl true))]))]⟩
def f_Machine___init__ : Fn := ⟨["self", "words", "begin"], 3, [.fld 0 (.var 0) "words" (.var 1),
    .fld 0 (.var 0) "cells" (.bin .add true (.bi (.list false) [(.var 1)]) (.bin .mul false (.list false [(.con (.int 0))]) (.bin .sub false (.glo 0) (.bi .len [(.var 1)])))),
    .fld 0 (.var 0) "boxes" (.bin .mul true (.list false [(.con (.int 0))]) (.con (.int 4))),
    .fld 0 (.var 0) "place" (.var 2),
    .fld 0 (.var 0) "calls" (.list true []),
    .fld 0 (.var 0) "says" (.list true []),
    .fld 0 (.var 0) "why" (.con (.str "")),
    .fld 0 (.var 0) "past" (.list true [])]⟩
def f_Machine_step : Fn := ⟨["self", "row"], 1, [.ite (.not (.chain .le .lt (.con (.int 0)) (.attr 0 (.var 0) "place") (.bi .len [(.attr 0 (.var 0) "words")]))) [.fld 0 (.var 0) "why" (.con (.str "end")),
    .ret (some (.con .non))] [],
    .asg (.var 1) (.call .clean 4 [(.attr 0 (.var 0) "words"), (.attr 0 (.var 0) "place")]),
    .ite (.isN true (.var 1)) [.fld 0 (.var 0) "why" (.con (.str "none")),
    .ret (some (.con .non))] [],
    .expr (.me .append (.attr 0 (.var 0) "past") [(.attr 0 (.var 0) "place")]),
    .expr (.meth 0 "do" 9 (.var 0) [(.var 1)]),
    .ret (some (.con .non))]⟩
def f_Machine_do : Fn := ⟨["self", "row", "op", "boxes", "numbers", "many", "goals", "behind"], 2, [.asg (.tup [(.var 2), (.var 3), (.var 4), (.var 5)]) (.var 1),
    .asg (.var 6) (.idx (.call .clean 6 [(.attr 0 (.var 0) "place"), (.var 1)]) (.con (.int 0))),
    .asg (.var 7) (.bin .add false (.attr 0 (.var 0) "place") (.var 5)),
    .ite (.cmp .isIn (.var 2) (.tuple [(.con (.str "jump")), (.con (.str "skip"))])) [.fld 0 (.var 0) "place" (.idx (.var 6) (.con (.int 0)))] [.ite (.cmp .eq (.var 2) (.con (.str "zero"))) [.fld 0 (.var 0) "place" (.ife (.cmp .eq (.idx (.attr 0 (.var 0) "boxes") (.idx (.var 3) (.con (.int 0)))) (.con (.int 0))) (.idx (.var 6) (.con (.int 0))) (.var 7))] [.ite (.cmp .eq (.var 2) (.con (.str "same"))) [.fld 0 (.var 0) "place" (.ife (.cmp .eq (.idx (.attr 0 (.var 0) "boxes") (.idx (.var 3) (.con (.int 0)))) (.idx (.attr 0 (.var 0) "boxes") (.idx (.var 3) (.con (.int 1))))) (.idx (.var 6) (.con (.int 0))) (.var 7))] [.ite (.cmp .eq (.var 2) (.con (.str "call"))) [.expr (.meth 0 "go_down" 10 (.var 0) [(.idx (.var 6) (.con (.int 0))), (.var 7)])] [.ite (.cmp .eq (.var 2) (.con (.str "back"))) [.expr (.meth 0 "come_back" 11 (.var 0) [])] [.ite (.cmp .eq (.var 2) (.con (.str "stop"))) [.fld 0 (.var 0) "why" (.con (.str "stop"))] [.expr (.meth 0 "reckon" 12 (.var 0) [(.var 2), (.var 3), (.var 4)]),
    .fld 0 (.var 0) "place" (.var 7)]]]]]]]⟩
def f_Machine_go_down : Fn := ⟨["self", "goal", "behind"], 3, [.ite (.cmp .eq (.bi .len [(.attr 0 (.var 0) "calls")]) (.glo 5)) [.fld 0 (.var 0) "why" (.con (.str "deep"))] [.expr (.me .append (.attr 0 (.var 0) "calls") [(.var 2)]),
    .fld 0 (.var 0) "place" (.var 1)]]⟩
def f_Machine_come_back : Fn := ⟨["self"], 1, [.ite (.cmp .eq (.attr 0 (.var 0) "calls") (.list false [])) [.fld 0 (.var 0) "why" (.con (.str "back"))] [.fld 0 (.var 0) "place" (.me .pop (.attr 0 (.var 0) "calls") [])]]⟩
def f_Machine_reckon : Fn := ⟨["self", "op", "boxes", "numbers", "here", "other", "worth"], 4, [.ite (.cmp .isIn (.var 1) (.tuple [(.con (.str "take")), (.con (.str "take!"))])) [.sub (.attr 0 (.var 0) "boxes") (.idx (.var 2) (.con (.int 0))) (.idx (.var 3) (.con (.int 0)))] [.ite (.cmp .eq (.var 1) (.con (.str "load"))) [.sub (.attr 0 (.var 0) "boxes") (.idx (.var 2) (.con (.int 0))) (.idx (.attr 0 (.var 0) "cells") (.idx (.var 3) (.con (.int 0))))] [.ite (.cmp .eq (.var 1) (.con (.str "store"))) [.sub (.attr 0 (.var 0) "cells") (.idx (.var 3) (.con (.int 0))) (.idx (.attr 0 (.var 0) "boxes") (.idx (.var 2) (.con (.int 0))))] [.ite (.cmp .eq (.var 1) (.con (.str "copy"))) [.sub (.attr 0 (.var 0) "cells") (.idx (.var 3) (.con (.int 1))) (.idx (.attr 0 (.var 0) "cells") (.idx (.var 3) (.con (.int 0))))] [.ite (.cmp .eq (.var 1) (.con (.str "say"))) [.expr (.me .append (.attr 0 (.var 0) "says") [(.idx (.attr 0 (.var 0) "boxes") (.idx (.var 2) (.con (.int 0))))])] [.asg (.tup [(.var 4), (.var 5)]) (.tuple [(.idx (.attr 0 (.var 0) "boxes") (.idx (.var 2) (.con (.int 0)))), (.idx (.attr 0 (.var 0) "boxes") (.idx (.var 2) (.con (.int 1))))]),
    .asg (.var 6) (.pick ["move", "add", "less"] [(.var 5), (.bin .add false (.var 4) (.var 5)), (.bin .sub false (.var 4) (.var 5))] (.var 1)),
    .sub (.attr 0 (.var 0) "boxes") (.idx (.var 2) (.con (.int 0))) (.bin .mod false (.var 6) (.glo 0))]]]]]]⟩
def f_run_B0 : List Sm := [.expr (.meth 0 "step" 8 (.var 3) [])]
def f_run_L0 : Sm := .whl (.and [(.cmp .eq (.attr 0 (.var 3) "why") (.con (.str ""))), (.cmp .lt (.bi .len [(.attr 0 (.var 3) "past")]) (.var 2))]) f_run_B0
def f_run : Fn := ⟨["words", "begin", "most", "machine"], 3, [.expr (.call .clean 1 [(.var 0)]),
    .ite (.not (.call .clean 0 [(.var 1), (.con (.int 0)), (.bin .sub false (.glo 0) (.con (.int 1)))])) [.raise 13 0 [(.con (.int 0))]] [],
    .ite (.not (.call .clean 0 [(.var 2), (.con (.int 0)), (.glo 4)])) [.raise 14 0 [(.con (.str "no such count"))]] [],
    .asg (.var 3) (.make 0 7 [(.bi (.list false) [(.var 0)]), (.var 1)]),
    f_run_L0,
    .ret (some (.tuple [(.attr 0 (.var 3) "says"), (.attr 0 (.var 3) "why"), (.attr 0 (.var 3) "past")]))]⟩
def f__law_start_B0 : List Sm := [.asg (.var 1) (.bin .mod false (.bin .add false (.bin .add false (.bin .mul false (.var 1) (.con (.int 48271))) (.var 2)) (.con (.int 7))) (.con (.int 2147483647)))]
def f__law_start_L0 : Sm := .for (.var 2) (.seq (.var 0)) f__law_start_B0
def f__law_start : Fn := ⟨["_law_script", "_law_mixed", "_law_cell"], 1, [.asg (.var 1) (.con (.int 1)),
    f__law_start_L0,
    .ret (some (.list true [(.var 0), (.con (.int 0)), (.var 1), (.con (.int 0))]))]⟩
def f__law_drawn : Fn := ⟨["_law_state", "_law_many", "_law_found", "_law_cell"], 2, [.ite (.cmp .gt (.idx (.var 0) (.con (.int 3))) (.con (.int 0))) [.asg (.var 2) (.bin .mod false (.idx (.var 0) (.con (.int 3))) (.var 1)),
    .sub (.var 0) (.con (.int 3)) (.bin .fdiv false (.idx (.var 0) (.con (.int 3))) (.var 1)),
    .ret (some (.var 2))] [],
    .sub (.var 0) (.con (.int 1)) (.bin .add false (.idx (.var 0) (.con (.int 1))) (.con (.int 1))),
    .ite (.cmp .le (.idx (.var 0) (.con (.int 1))) (.bi .len [(.idx (.var 0) (.con (.int 0)))])) [.asg (.var 3) (.idx (.idx (.var 0) (.con (.int 0))) (.bin .sub false (.idx (.var 0) (.con (.int 1))) (.con (.int 1)))),
    .sub (.var 0) (.con (.int 3)) (.ife (.cmp .ge (.var 3) (.bin .pow false (.con (.int 10)) (.con (.int 18)))) (.bin .fdiv false (.var 3) (.var 1)) (.con (.int 0))),
    .ret (some (.bin .mod false (.var 3) (.var 1)))] [],
    .sub (.var 0) (.con (.int 2)) (.bin .mod false (.bin .add false (.bin .mul false (.idx (.var 0) (.con (.int 2))) (.con (.int 48271))) (.con (.int 11))) (.con (.int 2147483647))),
    .ret (some (.bin .mod false (.bin .fdiv false (.idx (.var 0) (.con (.int 2))) (.con (.int 7))) (.var 1)))]⟩
def f__law_same_C0 : Ex := .comp false (.var 3) (.rng [(.bi .len [(.var 1)])]) (some (.not (.call .peek 85 [(.idx (.var 0) (.var 3)), (.idx (.var 1) (.var 3))]))) (.var 3)
def f__law_same : Fn := ⟨["_law_found", "_law_due", "_law_is_so", "_law_k"], 2, [.ite (.bi .isSeq [(.var 1)]) [.ite (.or [(.not (.bi .isSeq [(.var 0)])), (.cmp .ne (.bi .isList [(.var 0)]) (.bi .isList [(.var 1)]))]) [.ret (some (.con (.bl false)))] [],
    .ite (.cmp .ne (.bi .len [(.var 0)]) (.bi .len [(.var 1)])) [.ret (some (.con (.bl false)))] [],
    .ret (some (.cmp .eq f__law_same_C0 (.list false [])))] [],
    .asg (.var 2) (.and [(.cmp .eq (.bi .isBool [(.var 0)]) (.bi .isBool [(.var 1)])), (.cmp .eq (.bi .isInt [(.var 0)]) (.bi .isInt [(.var 1)]))]),
    .ret (some (.and [(.var 2), (.cmp .eq (.var 0) (.var 1))]))]⟩
def f__law_all_codes : Fn := ⟨["_law_some"], 0, [.asg (.var 0) (.list false [(.tuple [(.con (.str "stop")), (.con (.int 0)), (.con (.int 0)), (.con (.int 0))]), (.tuple [(.con (.str "back")), (.con (.int 1)), (.con (.int 0)), (.con (.int 0))]), (.tuple [(.con (.str "say")), (.con (.int 4)), (.con (.int 1)), (.con (.int 0))]), (.tuple [(.con (.str "take!")), (.con (.int 16)), (.con (.int 1)), (.con (.int 1))]), (.tuple [(.con (.str "move")), (.con (.int 32)), (.con (.int 2)), (.con (.int 0))])]),
    .asg (.var 0) (.bin .add false (.var 0) (.list false [(.tuple [(.con (.str "add")), (.con (.int 48)), (.con (.int 2)), (.con (.int 0))]), (.tuple [(.con (.str "less")), (.con (.int 64)), (.con (.int 2)), (.con (.int 0))]), (.tuple [(.con (.str "load")), (.con (.int 80)), (.con (.int 1)), (.con (.int 1))]), (.tuple [(.con (.str "store")), (.con (.int 84)), (.con (.int 1)), (.con (.int 1))]), (.tuple [(.con (.str "jump")), (.con (.int 96)), (.con (.int 0)), (.con (.int 1))])])),
    .asg (.var 0) (.bin .add false (.var 0) (.list false [(.tuple [(.con (.str "call")), (.con (.int 97)), (.con (.int 0)), (.con (.int 1))]), (.tuple [(.con (.str "skip")), (.con (.int 99)), (.con (.int 0)), (.con (.int 1))]), (.tuple [(.con (.str "zero")), (.con (.int 100)), (.con (.int 1)), (.con (.int 1))]), (.tuple [(.con (.str "same")), (.con (.int 112)), (.con (.int 2)), (.con (.int 1))])])),
    .ret (some (.bin .add false (.var 0) (.list false [(.tuple [(.con (.str "copy")), (.con (.int 128)), (.con (.int 0)), (.con (.int 2))])])))]⟩
def f__law_read_B0 : List Sm := [.ite (.cmp .eq (.var 2) (.bin .add false (.var 4) (.idx (.list false [(.con (.int 0)), (.var 7), (.bin .add false (.bin .mul false (.con (.int 4)) (.var 7)) (.var 8))]) (.var 5)))) [.ite (.cmp .ge (.bin .add false (.var 1) (.var 6)) (.bi .len [(.var 0)])) [.ret (some (.con .non))] [],
    .ret (some (.tuple [(.var 3), (.idx (.list false [(.list false []), (.list false [(.var 7)]), (.list false [(.var 7), (.var 8)])]) (.var 5)), (.slc false (.var 0) (some (.bin .add false (.var 1) (.con (.int 1)))) (some (.bin .add false (.bin .add false (.var 1) (.con (.int 1))) (.var 6)))), (.bin .add false (.con (.int 1)) (.var 6))]))] []]
def f__law_read_L0 : Sm := .for (.var 8) (.rng [(.ife (.cmp .gt (.var 5) (.con (.int 1))) (.con (.int 4)) (.con (.int 1)))]) f__law_read_B0
def f__law_read_B1 : List Sm := [f__law_read_L0]
def f__law_read_L1 : Sm := .for (.var 7) (.rng [(.ife (.cmp .gt (.var 5) (.con (.int 0))) (.con (.int 4)) (.con (.int 1)))]) f__law_read_B1
def f__law_read_B2 : List Sm := [f__law_read_L1]
def f__law_read_L2 : Sm := .for (.tup [(.var 3), (.var 4), (.var 5), (.var 6)]) (.seq (.call .clean 86 [])) f__law_read_B2
def f__law_read : Fn := ⟨["_law_words", "_law_place", "_law_first", "_law_op", "_law_base", "_law_many", "_law_more", "_law_one", "_law_two"], 2, [.ite (.not (.chain .le .lt (.con (.int 0)) (.var 1) (.bi .len [(.var 0)]))) [.ret (some (.con .non))] [],
    .asg (.var 2) (.idx (.var 0) (.var 1)),
    .ite (.chain .le .lt (.con (.int 144)) (.var 2) (.con (.int 176))) [.ret (some (.tuple [(.con (.str "take")), (.list false [(.bin .fdiv false (.bin .sub false (.var 2) (.con (.int 144))) (.con (.int 8)))]), (.list false [(.bin .mod false (.bin .sub false (.var 2) (.con (.int 144))) (.con (.int 8)))]), (.con (.int 1))]))] [],
    f__law_read_L2,
    .ret (some (.con .non))]⟩
def f__law_any_words_B0 : List Sm := [.asg (.var 11) (.list false [(.call .plain 84 [(.var 0), (.bin .add false (.var 2) (.con (.int 2)))]), (.bin .sub false (.bin .add false (.bi .len [(.var 3)]) (.call .plain 84 [(.var 0), (.con (.int 5))])) (.con (.int 2))), (.call .plain 84 [(.var 0), (.con (.int 256))])]),
    .expr (.me .append (.var 3) [(.bin .mod false (.ife (.cmp .ne (.var 6) (.con (.str "skip"))) (.idx (.var 11) (.call .plain 84 [(.var 0), (.con (.int 3))])) (.bin .sub false (.call .plain 84 [(.var 0), (.con (.int 12))]) (.con (.int 6)))) (.con (.int 256)))])]
def f__law_any_words_L0 : Sm := .for (.var 10) (.rng [(.var 9)]) f__law_any_words_B0
def f__law_any_words_B1 : List Sm := [.asg (.var 5) (.call .plain 84 [(.var 0), (.con (.int 5))]),
    .ite (.cmp .eq (.var 5) (.con (.int 0))) [.expr (.me .append (.var 3) [(.call .plain 84 [(.var 0), (.con (.int 256))])])] [.ite (.cmp .eq (.var 5) (.con (.int 1))) [.expr (.me .append (.var 3) [(.bin .add false (.con (.int 144)) (.call .plain 84 [(.var 0), (.con (.int 32))]))])] [.asg (.tup [(.var 6), (.var 7), (.var 8), (.var 9)]) (.idx (.var 4) (.call .plain 84 [(.var 0), (.con (.int 15))])),
    .expr (.me .append (.var 3) [(.bin .add false (.var 7) (.call .plain 84 [(.var 0), (.idx (.list false [(.con (.int 1)), (.con (.int 4)), (.con (.int 16))]) (.var 8))]))]),
    f__law_any_words_L0]]]
def f__law_any_words_L1 : Sm := .whl (.cmp .lt (.bi .len [(.var 3)]) (.var 2)) f__law_any_words_B1
def f__law_any_words : Fn := ⟨["_law_state", "_law_some", "_law_many", "_law_found", "_law_codes", "_law_way", "_law_op", "_law_base", "_law_boxes", "_law_more", "_law_k", "_law_near"], 1, [.asg (.var 1) (.list false [(.call .plain 84 [(.var 0), (.con (.int 12))]), (.call .plain 84 [(.var 0), (.con (.int 60))]), (.bin .add false (.con (.int 200)) (.call .plain 84 [(.var 0), (.con (.int 57))]))]),
    .asg (.var 2) (.idx (.var 1) (.idx (.list false [(.con (.int 0)), (.con (.int 1)), (.con (.int 1)), (.con (.int 1)), (.con (.int 2))]) (.call .plain 84 [(.var 0), (.con (.int 5))]))),
    .asg (.tup [(.var 3), (.var 4)]) (.tuple [(.list true []), (.call .clean 86 [])]),
    f__law_any_words_L1,
    .ret (some (.slc false (.var 3) none (some (.var 2))))]⟩
def f__law_runs_C0 : Ex := .comp false (.var 19) (.seq (.slc false (.bin .add false (.var 12) (.list false [(.con (.int 0)), (.con (.int 0))])) none (some (.con (.int 2))))) none (.idx (.var 4) (.var 19))
def f__law_runs_B0 : List Sm := [.asg (.var 10) (.call .clean 88 [(.var 0), (.var 5)]),
    .ite (.isN true (.var 10)) [.asg (.var 9) (.ife (.chain .le .lt (.con (.int 0)) (.var 5) (.bi .len [(.var 0)])) (.con (.str "none")) (.con (.str "end")))] [.asg (.tup [(.var 11), (.var 12), (.var 13), (.var 14)]) (.var 10),
    .expr (.me .append (.var 8) [(.var 5)]),
    .asg (.var 15) (.bin .add false (.var 5) (.var 14)),
    .asg (.var 5) (.var 15),
    .asg (.var 16) (.idx (.bin .add false (.var 13) (.list false [(.con (.int 0))])) (.con (.int 0))),
    .asg (.tup [(.var 17), (.var 18)]) f__law_runs_C0,
    .ite (.cmp .isIn (.var 11) (.tuple [(.con (.str "take")), (.con (.str "take!")), (.con (.str "load"))])) [.sub (.var 4) (.idx (.var 12) (.con (.int 0))) (.ife (.cmp .eq (.var 11) (.con (.str "load"))) (.idx (.var 3) (.var 16)) (.var 16))] [],
    .ite (.cmp .isIn (.var 11) (.tuple [(.con (.str "move")), (.con (.str "add")), (.con (.str "less"))])) [.sub (.var 4) (.idx (.var 12) (.con (.int 0))) (.bin .mod false (.pick ["move", "add", "less"] [(.var 18), (.bin .add false (.var 17) (.var 18)), (.bin .sub false (.var 17) (.var 18))] (.var 11)) (.con (.int 256)))] [],
    .ite (.cmp .eq (.var 11) (.con (.str "store"))) [.sub (.var 3) (.var 16) (.var 17)] [],
    .ite (.cmp .eq (.var 11) (.con (.str "copy"))) [.sub (.var 3) (.idx (.var 13) (.con (.int 1))) (.idx (.var 3) (.var 16))] [],
    .ite (.cmp .eq (.var 11) (.con (.str "say"))) [.expr (.me .append (.var 7) [(.var 17)])] [],
    .ite (.or [(.cmp .eq (.var 11) (.con (.str "jump"))), (.and [(.cmp .eq (.var 11) (.con (.str "zero"))), (.cmp .eq (.var 17) (.con (.int 0)))]), (.and [(.cmp .eq (.var 11) (.con (.str "same"))), (.cmp .eq (.var 17) (.var 18))])]) [.asg (.var 5) (.var 16)] [],
    .asg (.var 5) (.ife (.cmp .eq (.var 11) (.con (.str "skip"))) (.bin .sub false (.bin .add false (.var 15) (.bin .mod false (.bin .add false (.var 16) (.con (.int 128))) (.con (.int 256)))) (.con (.int 128))) (.var 5)),
    .ite (.cmp .eq (.var 11) (.con (.str "call"))) [.asg (.var 9) (.ife (.cmp .eq (.bi .len [(.var 6)]) (.con (.int 16))) (.con (.str "deep")) (.con (.str ""))),
    .asg (.var 6) (.bin .add false (.var 6) (.bin .mul false (.list false [(.var 15)]) (.bi .int [(.cmp .eq (.var 9) (.con (.str "")))]))),
    .asg (.var 5) (.var 16)] [],
    .ite (.cmp .eq (.var 11) (.con (.str "back"))) [.asg (.var 9) (.ife (.cmp .eq (.var 6) (.list false [])) (.con (.str "back")) (.con (.str ""))),
    .asg (.tup [(.var 5), (.var 6)]) (.tuple [(.idx (.bin .add false (.list false [(.var 5)]) (.var 6)) (.neg (.con (.int 1)))), (.slc false (.var 6) none (some (.neg (.con (.int 1)))))])] [],
    .asg (.var 9) (.ife (.cmp .eq (.var 11) (.con (.str "stop"))) (.con (.str "stop")) (.var 9))]]
def f__law_runs_L0 : Sm := .whl (.and [(.cmp .eq (.var 9) (.con (.str ""))), (.cmp .lt (.bi .len [(.var 8)]) (.var 2))]) f__law_runs_B0
def f__law_runs : Fn := ⟨["_law_words", "_law_begin", "_law_most", "_law_cells", "_law_boxes", "_law_place", "_law_calls", "_law_says", "_law_past", "_law_why", "_law_row", "_law_op", "_law_some", "_law_numbers", "_law_many", "_law_behind", "_law_number", "_law_here", "_law_other", "_law_one"], 3, [.asg (.tup [(.var 3), (.var 4)]) (.tuple [(.bin .add true (.bi (.list false) [(.var 0)]) (.bin .mul false (.list false [(.con (.int 0))]) (.bin .sub false (.con (.int 256)) (.bi .len [(.var 0)])))), (.list true [(.con (.int 0)), (.con (.int 0)), (.con (.int 0)), (.con (.int 0))])]),
    .asg (.tup [(.var 5), (.var 6), (.var 7), (.var 8), (.var 9)]) (.tuple [(.var 1), (.list false []), (.list true []), (.list true []), (.con (.str ""))]),
    f__law_runs_L0,
    .ret (some (.tuple [(.var 7), (.var 9), (.var 8)]))]⟩
def f_law_B0 : List Sm := [.asg (.var 11) (.call .fresh 13 [(.var 9), (.var 6), (.var 7)]),
    .ite (.or [(.not (.call .peek 85 [(.var 11), (.var 8)])), (.cmp .ne (.var 9) (.var 4))]) [.ret (some (.con (.bl false)))] [],
    .expr (.me .append (.idx (.var 11) (.con (.int 0))) [(.con (.int 0))]),
    .expr (.me .append (.idx (.var 11) (.con (.int 2))) [(.con (.int 0))])]
def f_law_L0 : Sm := .for (.var 10) (.rng [(.con (.int 2))]) f_law_B0
def f_law_B1 : List Sm := [.asg (.var 4) (.call .focus 89 [(.var 1)]),
    .asg (.tup [(.var 6), (.var 7)]) (.tuple [(.bin .mod false (.call .plain 84 [(.var 1), (.bin .add false (.con (.int 1)) (.bi .len [(.var 4)]))]) (.con (.int 256))), (.idx (.list false [(.call .plain 84 [(.var 1), (.con (.int 30))]), (.con (.int 200)), (.con (.int 1000))]) (.call .plain 84 [(.var 1), (.con (.int 3))]))]),
    .asg (.tup [(.var 8), (.var 9)]) (.tuple [(.call .clean 90 [(.var 4), (.var 6), (.var 7)]), (.bi (.list false) [(.var 4)])]),
    f_law_L0]
def f_law_L1 : Sm := .for (.var 2) (.rng [(.con (.int 5))]) f_law_B1
def f_law_B2 : List Sm := [.asg (.var 4) (.bin .add false (.var 4) (.list false [(.con (.int 97)), (.bin .add false (.bin .mul false (.con (.int 2)) (.var 5)) (.con (.int 2)))]))]
def f_law_L2 : Sm := .for (.var 5) (.rng [(.var 3)]) f_law_B2
def f_law : Fn := ⟨["_law_script", "_law_state", "_law_turn", "_law_deep", "_law_words", "_law_k", "_law_begin", "_law_most", "_law_due", "_law_handed", "_law_again", "_law_found"], 1, [.asg (.var 1) (.call .plain 83 [(.var 0)]),
    f_law_L1,
    .asg (.var 3) (.bin .add false (.con (.int 14)) (.call .plain 84 [(.var 1), (.con (.int 4))])),
    .asg (.var 4) (.list false []),
    f_law_L2,
    .asg (.var 4) (.bin .add false (.bin .add false (.var 4) (.list false [(.bin .add false (.con (.int 144)) (.con (.int 7))), (.con (.int 4))])) (.list false [(.con (.int 1))])),
    .ret (some (.call .peek 85 [(.call .fresh 13 [(.var 4), (.con (.int 0)), (.con (.int 1000))]), (.call .clean 90 [(.var 4), (.con (.int 0)), (.con (.int 1000))])]))]⟩
def pg : Pg := {
  consts := [("SIZE", (.int 256)), ("SHORT", (.int 8)), ("TAKE", (.int 144)), ("COUNTS", (.tup [(.int 1), (.int 4), (.int 16)])), ("MOST_STEPS", (.int 1000)), ("DEEPEST", (.int 16))]
  tabs := [("OPS", [("stop", (.tup [(.str "stop"), (.int 0), (.int 0), (.int 0)])), ("back", (.tup [(.str "back"), (.int 1), (.int 0), (.int 0)])), ("say", (.tup [(.str "say"), (.int 4), (.int 1), (.int 0)])), ("take!", (.tup [(.str "take!"), (.int 16), (.int 1), (.int 1)])), ("move", (.tup [(.str "move"), (.int 32), (.int 2), (.int 0)])), ("add", (.tup [(.str "add"), (.int 48), (.int 2), (.int 0)])), ("less", (.tup [(.str "less"), (.int 64), (.int 2), (.int 0)])), ("load", (.tup [(.str "load"), (.int 80), (.int 1), (.int 1)])), ("store", (.tup [(.str "store"), (.int 84), (.int 1), (.int 1)])), ("jump", (.tup [(.str "jump"), (.int 96), (.int 0), (.int 1)])), ("call", (.tup [(.str "call"), (.int 97), (.int 0), (.int 1)])), ("skip", (.tup [(.str "skip"), (.int 99), (.int 0), (.int 1)])), ("zero", (.tup [(.str "zero"), (.int 100), (.int 1), (.int 1)])), ("same", (.tup [(.str "same"), (.int 112), (.int 2), (.int 1)])), ("copy", (.tup [(.str "copy"), (.int 128), (.int 0), (.int 2)]))])]
  gname := [(0, "is_number"), (1, "need_words"), (3, "kind_of"), (4, "row_at"), (5, "signed"), (6, "goals_of"), (13, "run"), (82, "law"), (83, "_law_start"), (84, "_law_drawn"), (85, "_law_same"), (86, "_law_all_codes"), (88, "_law_read"), (89, "_law_any_words"), (90, "_law_runs")]
  meths := [(0, "step", 8), (0, "do", 9), (0, "go_down", 10), (0, "come_back", 11), (0, "reckon", 12)]
  makes := [(0, "Machine", 7)]
  flds := [(0, "words"), (0, "cells"), (0, "boxes"), (0, "place"), (0, "calls"), (0, "says"), (0, "why"), (0, "past")] }
def cn : List (Nat × Str) := [(0, "Machine")]
def pes : List PE := [⟨0, f_is_number, srcS "is_number" "is_number" (top 11), ("is_number", none)⟩,
  ⟨1, f_need_words, srcS "need_words" "need_words" (top 12), ("need_words", none)⟩,
  ⟨3, f_kind_of, srcS "kind_of" "kind_of" (top 13), ("kind_of", none)⟩,
  ⟨4, f_row_at, srcS "row_at" "row_at" (top 14), ("row_at", none)⟩,
  ⟨5, f_signed, srcS "signed" "signed" (top 15), ("signed", none)⟩,
  ⟨6, f_goals_of, srcS "goals_of" "goals_of" (top 16), ("goals_of", none)⟩,
  ⟨7, f_Machine___init__, srcS "__init__" "Machine.__init__" (meth 20 0), ("Machine", some "__init__")⟩,
  ⟨8, f_Machine_step, srcS "step" "Machine.step" (meth 20 1), ("Machine", some "step")⟩,
  ⟨9, f_Machine_do, srcS "do" "Machine.do" (meth 20 2), ("Machine", some "do")⟩,
  ⟨10, f_Machine_go_down, srcS "go_down" "Machine.go_down" (meth 20 3), ("Machine", some "go_down")⟩,
  ⟨11, f_Machine_come_back, srcS "come_back" "Machine.come_back" (meth 20 4), ("Machine", some "come_back")⟩,
  ⟨12, f_Machine_reckon, srcS "reckon" "Machine.reckon" (meth 20 5), ("Machine", some "reckon")⟩,
  ⟨13, f_run, srcS "run" "run" (top 21), ("run", none)⟩,
  ⟨82, f_law, srcS "law" "law" (top 31), ("law", none)⟩,
  ⟨83, f__law_start, srcS "_law_start" "_law_start" (top 23), ("_law_start", none)⟩,
  ⟨84, f__law_drawn, srcS "_law_drawn" "_law_drawn" (top 24), ("_law_drawn", none)⟩,
  ⟨85, f__law_same, srcS "_law_same" "_law_same" (top 25), ("_law_same", none)⟩,
  ⟨86, f__law_all_codes, srcS "_law_all_codes" "_law_all_codes" (top 26), ("_law_all_codes", none)⟩,
  ⟨88, f__law_read, srcS "_law_read" "_law_read" (top 28), ("_law_read", none)⟩,
  ⟨89, f__law_any_words, srcS "_law_any_words" "_law_any_words" (top 29), ("_law_any_words", none)⟩,
  ⟨90, f__law_runs, srcS "_law_runs" "_law_runs" (top 30), ("_law_runs", none)⟩]
def fns : Nat → Option Fn := fnsOf pes
theorem binds : ∀ e ∈ pes, BindsEq e.src (e.fn.names.take e.fn.np) := by
  unfold pes
  refine List.forall_mem_cons.mpr <| And.intro (fun _ _ _ _ _ _ us hl => match us, hl with | [_, _, _], _ => rfl) <| List.forall_mem_cons.mpr <| And.intro (fun _ _ _ _ _ _ us hl => match us, hl with | [_], _ => rfl) <| List.forall_mem_cons.mpr <| And.intro (fun _ _ _ _ _ _ us hl => match us, hl with | [_], _ => rfl) <| List.forall_mem_cons.mpr <| And.intro (fun _ _ _ _ _ _ us hl => match us, hl with | [_, _], _ => rfl) <| List.forall_mem_cons.mpr <| And.intro (fun _ _ _ _ _ _ us hl => match us, hl with | [_], _ => rfl) <| List.forall_mem_cons.mpr <| And.intro (fun _ _ _ _ _ _ us hl => match us, hl with | [_, _], _ => rfl) <| List.forall_mem_cons.mpr <| And.intro (fun _ _ _ _ _ _ us hl => match us, hl with | [_, _, _], _ => rfl) <| List.forall_mem_cons.mpr <| And.intro (fun _ _ _ _ _ _ us hl => match us, hl with | [_], _ => rfl) <| List.forall_mem_cons.mpr <| And.intro (fun _ _ _ _ _ _ us hl => match us, hl with | [_, _], _ => rfl) <| List.forall_mem_cons.mpr <| And.intro (fun _ _ _ _ _ _ us hl => match us, hl with | [_, _, _], _ => rfl) <| List.forall_mem_cons.mpr <| And.intro (fun _ _ _ _ _ _ us hl => match us, hl with | [_], _ => rfl) <| List.forall_mem_cons.mpr <| And.intro (fun _ _ _ _ _ _ us hl => match us, hl with | [_, _, _, _], _ => rfl) <| List.forall_mem_cons.mpr <| And.intro (fun _ _ _ _ _ _ us hl => match us, hl with | [_, _, _], _ => rfl) <| List.forall_mem_cons.mpr <| And.intro (fun _ _ _ _ _ _ us hl => match us, hl with | [_], _ => rfl) <| List.forall_mem_cons.mpr <| And.intro (fun _ _ _ _ _ _ us hl => match us, hl with | [_], _ => rfl) <| List.forall_mem_cons.mpr <| And.intro (fun _ _ _ _ _ _ us hl => match us, hl with | [_, _], _ => rfl) <| List.forall_mem_cons.mpr <| And.intro (fun _ _ _ _ _ _ us hl => match us, hl with | [_, _], _ => rfl) <| List.forall_mem_cons.mpr <| And.intro (fun _ _ _ _ _ _ us hl => match us, hl with | [], _ => rfl) <| List.forall_mem_cons.mpr <| And.intro (fun _ _ _ _ _ _ us hl => match us, hl with | [_, _], _ => rfl) <| List.forall_mem_cons.mpr <| And.intro (fun _ _ _ _ _ _ us hl => match us, hl with | [_], _ => rfl) <| List.forall_mem_cons.mpr <| And.intro (fun _ _ _ _ _ _ us hl => match us, hl with | [_, _, _], _ => rfl) <| (fun _ h => by cases h)
theorem sane : saneB pg pes cn = true := by kernel_rfl
theorem checked : (pes.all fun e => fnC pg fns e.fn e.src) = true := by kernel_rfl
def loose : List PySem.Str := (["ScribeError", "BadWords", "BadBegins", "BadCount", "SIZE", "SHORT", "OPS", "TAKE", "COUNTS", "is_number", "need_words", "kind_of", "row_at", "signed", "goals_of", "MOST_STEPS", "DEEPEST", "Machine", "run", "_law_start", "_law_drawn", "_law_same", "_law_all_codes", "_law_forms", "_law_read", "_law_any_words", "_law_runs"] : List PySem.Str)
def lawIx : Nat := 31
end Rw.K02
end

section
set_option Elab.async false
set_option linter.all false
set_option maxRecDepth 100000
set_option maxHeartbeats 0
/-! k02: the rows -/
namespace Rw.K02
open PySem
/-- what a word begins: the op, its boxes, how many words more, the short number -/
def kd (w : Nat) : Option (String × List Int × Int × Option Int) :=
  if 144 ≤ w ∧ w < 176 then some ("take", [((w : Int) - 144) / 8], 0, some (((w : Int) - 144) % 8)) else
  if w < 1 then some ("stop", [], 0, none) else
  if w < 2 then some ("back", [], 0, none) else
  if w < 4 then none else
  if w < 8 then some ("say", [(w : Int) - 4], 0, none) else
  if w < 16 then none else
  if w < 20 then some ("take!", [(w : Int) - 16], 1, none) else
  if w < 32 then none else
  if w < 48 then some ("move", [((w : Int) - 32) / 4, ((w : Int) - 32) % 4], 0, none) else
  if w < 64 then some ("add", [((w : Int) - 48) / 4, ((w : Int) - 48) % 4], 0, none) else
  if w < 80 then some ("less", [((w : Int) - 64) / 4, ((w : Int) - 64) % 4], 0, none) else
  if w < 84 then some ("load", [(w : Int) - 80], 1, none) else
  if w < 88 then some ("store", [(w : Int) - 84], 1, none) else
  if w < 96 then none else
  if w < 97 then some ("jump", [], 1, none) else
  if w < 98 then some ("call", [], 1, none) else
  if w < 99 then none else
  if w < 100 then some ("skip", [], 1, none) else
  if w < 104 then some ("zero", [(w : Int) - 100], 1, none) else
  if w < 112 then none else
  if w < 128 then some ("same", [((w : Int) - 112) / 4, ((w : Int) - 112) % 4], 1, none) else
  if w < 129 then some ("copy", [], 2, none) else none
def shT : Option Int → T
  | none => .non
  | some n => .int n
def kT : Option (String × List Int × Int × Option Int) → T
  | none => .non
  | some (op, bx, more, sh) => .tup [.str (Str.ofString op), tl bx, .int more, shT sh]
theorem kind_all (k : Nat) : ((List.range 256).all fun w => okT (run pg fns (k + 1) 3 [.t (.int (Int.ofNat w))] []) (kT (kd w))) = true := by kernel_rfl
theorem kind_ok (k : Nat) {w : Int} (h0 : 0 ≤ w) (h1 : w < 256) : run pg fns (k + 1) 3 [.t (.int w)] [] = .ok (.t (kT (kd w.toNat))) [] := by
  have := List.all_eq_true.mp (kind_all k) w.toNat (List.mem_range.mpr (by omega))
  have e : Int.ofNat w.toNat = w := Int.toNat_of_nonneg h0
  rw [e] at this
  exact okT_ok this
abbrev Row : Type := String × List Int × List Int × Int
def shL (ws : List Int) (p more : Int) : Option Int → List Int
  | none => cut ws (some (p + 1)) (some (p + 1 + more))
  | some n => [n]
def rowF (ws : List Int) (p : Int) : Option Row := if 0 ≤ p ∧ p < ws.length then (match kd (ws.getD p.toNat 0).toNat with
    | none => none
    | some (op, bx, more, sh) => if p + 1 + more > ws.length then none else some (op, bx, shL ws p more sh, 1 + more)) else none
def rT : Option Row → T
  | none => .non
  | some (op, bx, nums, many) => .tup [.str (Str.ofString op), tl bx, tl nums, .int many]
theorem allT_tl (l : List Int) (r : List D) : allT (.t (tl l) :: r) = (match allT r with | some m => some (tl l :: m) | none => none) := rfl
def Ws (ws : List Int) : Prop := ∀ w ∈ ws, 0 ≤ w ∧ w < 256
theorem Ws.get {ws : List Int} (h : Ws ws) {i : Nat} (hi : i < ws.length) : 0 ≤ ws.getD i 0 ∧ ws.getD i 0 < 256 := by
  rw [List.getD_eq_getElem?_getD, List.getElem?_eq_getElem hi]
  exact h _ (List.getElem_mem hi)
theorem row_ok (k : Nat) {ws : List Int} {p : Int} (hw : Ws ws) : run pg fns (k + 2) 4 [.t (tl ws), .t (.int p)] [] = .ok (.t (rT (rowF ws p))) [] := by
  rw [run_at (fn := f_row_at) (by kernel_rfl)]
  by_cases hp : 0 ≤ p ∧ p < ws.length
  · obtain ⟨h0, h1⟩ := hp
    obtain ⟨w0, w1⟩ := hw.get (i := p.toNat) (by omega)
    have hat := atI_il h0 h1
    unfold rowF
    rw [if_pos ⟨h0, h1⟩]
    generalize ws.getD p.toNat 0 = w at w0 w1 hat ⊢
    have hk := kind_ok k w0 w1
    cases q : kd w.toNat with
    | none =>
      rw [q] at hk
      simp [fnV, evB, evS_asg, evS_fld, evS_sub, evS_expr, evS_retN, evS_ret, evS_ite, evE, evEs, evT, evAnd, evOr, evO, evC, evSr, Res.bind, okIf, idxV, sqOf, cmpV, cmpN, cmpI, truV, binV, asg, asgs, subV, mkL, mkLn, frzL, frzT, allT, isNB, at0, at1, at2, at3, L2.ixN, biV, eq_int, eq_str, line, lsOf_tl, tpOf_tl, scOf_tl, snap_t, allT_il, tl_fold, tl0, tl1, tl2, il0, il1, il2, il_len, lsO_non, tpO_non, scO_non, lsO_bl, tpO_bl, scO_bl, lsO_int, tpO_int, scO_int, lsO_str, tpO_str, scO_str, lsO_tup, tpO_tup, scO_tup, lsO_lst, tpO_lst, scO_lst, lsO_scr, tpO_scr, scO_scr, lsO_ref, tpO_ref, scO_ref, lsO_Dt, tpO_Dt, scO_Dt, lsO_Dl, tpO_Dl, scO_Dl, f_row_at, h0, h1, callV, hat, hk, kT, rT]
    | some z =>
      obtain ⟨op, bx, more, sh⟩ := z
      rw [q] at hk
      by_cases hm : p + 1 + more > ws.length
      · simp [fnV, evB, evS_asg, evS_fld, evS_sub, evS_expr, evS_retN, evS_ret, evS_ite, evE, evEs, evT, evAnd, evOr, evO, evC, evSr, Res.bind, okIf, idxV, sqOf, cmpV, cmpN, cmpI, truV, binV, asg, asgs, subV, mkL, mkLn, frzL, frzT, allT, isNB, at0, at1, at2, at3, L2.ixN, biV, eq_int, eq_str, line, lsOf_tl, tpOf_tl, scOf_tl, snap_t, allT_il, tl_fold, tl0, tl1, tl2, il0, il1, il2, il_len, lsO_non, tpO_non, scO_non, lsO_bl, tpO_bl, scO_bl, lsO_int, tpO_int, scO_int, lsO_str, tpO_str, scO_str, lsO_tup, tpO_tup, scO_tup, lsO_lst, tpO_lst, scO_lst, lsO_scr, tpO_scr, scO_scr, lsO_ref, tpO_ref, scO_ref, lsO_Dt, tpO_Dt, scO_Dt, lsO_Dl, tpO_Dl, scO_Dl, f_row_at, h0, h1, callV, hat, hk, kT, rT, hm]
      · cases sh with
        | none => simp [fnV, evB, evS_asg, evS_fld, evS_sub, evS_expr, evS_retN, evS_ret, evS_ite, evE, evEs, evT, evAnd, evOr, evO, evC, evSr, Res.bind, okIf, idxV, sqOf, cmpV, cmpN, cmpI, truV, binV, asg, asgs, subV, mkL, mkLn, frzL, frzT, allT, isNB, at0, at1, at2, at3, L2.ixN, biV, eq_int, eq_str, line, lsOf_tl, tpOf_tl, scOf_tl, snap_t, allT_il, tl_fold, tl0, tl1, tl2, il0, il1, il2, il_len, lsO_non, tpO_non, scO_non, lsO_bl, tpO_bl, scO_bl, lsO_int, tpO_int, scO_int, lsO_str, tpO_str, scO_str, lsO_tup, tpO_tup, scO_tup, lsO_lst, tpO_lst, scO_lst, lsO_scr, tpO_scr, scO_scr, lsO_ref, tpO_ref, scO_ref, lsO_Dt, tpO_Dt, scO_Dt, lsO_Dl, tpO_Dl, scO_Dl, f_row_at, h0, h1, callV, hat, hk, kT, rT, hm, shT, shL, slcV, cut_il]
        | some n => simp [fnV, evB, evS_asg, evS_fld, evS_sub, evS_expr, evS_retN, evS_ret, evS_ite, evE, evEs, evT, evAnd, evOr, evO, evC, evSr, Res.bind, okIf, idxV, sqOf, cmpV, cmpN, cmpI, truV, binV, asg, asgs, subV, mkL, mkLn, frzL, frzT, allT, isNB, at0, at1, at2, at3, L2.ixN, biV, eq_int, eq_str, line, lsOf_tl, tpOf_tl, scOf_tl, snap_t, allT_il, tl_fold, tl0, tl1, tl2, il0, il1, il2, il_len, lsO_non, tpO_non, scO_non, lsO_bl, tpO_bl, scO_bl, lsO_int, tpO_int, scO_int, lsO_str, tpO_str, scO_str, lsO_tup, tpO_tup, scO_tup, lsO_lst, tpO_lst, scO_lst, lsO_scr, tpO_scr, scO_scr, lsO_ref, tpO_ref, scO_ref, lsO_Dt, tpO_Dt, scO_Dt, lsO_Dl, tpO_Dl, scO_Dl, f_row_at, h0, h1, callV, hat, hk, kT, rT, hm, shT, shL, slcV, cut_il]
  · unfold rowF
    rw [if_neg hp]
    by_cases h0 : 0 ≤ p
    · have h1 : ¬ p < ws.length := fun z => hp ⟨h0, z⟩
      simp [fnV, evB, evS_asg, evS_fld, evS_sub, evS_expr, evS_retN, evS_ret, evS_ite, evE, evEs, evT, evAnd, evOr, evO, evC, evSr, Res.bind, okIf, idxV, sqOf, cmpV, cmpN, cmpI, truV, binV, asg, asgs, subV, mkL, mkLn, frzL, frzT, allT, isNB, at0, at1, at2, at3, L2.ixN, biV, eq_int, eq_str, line, lsOf_tl, tpOf_tl, scOf_tl, snap_t, allT_il, tl_fold, tl0, tl1, tl2, il0, il1, il2, il_len, lsO_non, tpO_non, scO_non, lsO_bl, tpO_bl, scO_bl, lsO_int, tpO_int, scO_int, lsO_str, tpO_str, scO_str, lsO_tup, tpO_tup, scO_tup, lsO_lst, tpO_lst, scO_lst, lsO_scr, tpO_scr, scO_scr, lsO_ref, tpO_ref, scO_ref, lsO_Dt, tpO_Dt, scO_Dt, lsO_Dl, tpO_Dl, scO_Dl, f_row_at, h0, h1, rT]
    · simp [fnV, evB, evS_asg, evS_fld, evS_sub, evS_expr, evS_retN, evS_ret, evS_ite, evE, evEs, evT, evAnd, evOr, evO, evC, evSr, Res.bind, okIf, idxV, sqOf, cmpV, cmpN, cmpI, truV, binV, asg, asgs, subV, mkL, mkLn, frzL, frzT, allT, isNB, at0, at1, at2, at3, L2.ixN, biV, eq_int, eq_str, line, lsOf_tl, tpOf_tl, scOf_tl, snap_t, allT_il, tl_fold, tl0, tl1, tl2, il0, il1, il2, il_len, lsO_non, tpO_non, scO_non, lsO_bl, tpO_bl, scO_bl, lsO_int, tpO_int, scO_int, lsO_str, tpO_str, scO_str, lsO_tup, tpO_tup, scO_tup, lsO_lst, tpO_lst, scO_lst, lsO_scr, tpO_scr, scO_scr, lsO_ref, tpO_ref, scO_ref, lsO_Dt, tpO_Dt, scO_Dt, lsO_Dl, tpO_Dl, scO_Dl, f_row_at, h0, rT]
end Rw.K02
end

section
set_option Elab.async false
set_option linter.all false
set_option maxRecDepth 100000
set_option maxHeartbeats 0
/-! k02: the law's own reading of a row -/
namespace Rw.K02
open PySem
section
variable (ws : List Int) (p w : Int)
def hT (op : String) (bx : List Int) (more : Int) : T := if p + more ≥ ws.length then .non else .tup [.str (Str.ofString op), tl bx, tl (cut ws (some (p + 1)) (some (p + 1 + more))), .int (1 + more)]
def en (a b c d e f : Option D) : En := [some (.t (tl ws)), some (.t (.int p)), some (.t (.int w)), a, b, c, d, e, f]
variable {ws p w} {G : Cal} {op : String} {base more one two : Int} {x y : Option D}
abbrev iD (i : Int) : Option D := some (.t (.int i))
abbrev sD (s : String) : Option D := some (.t (.str (Str.ofString s)))
theorem b0h {many : Int} {bx : List Int} (hm : (many = 0 ∧ bx = [] ∧ w = base) ∨ (many = 1 ∧ bx = [one] ∧ w = base + one) ∨ (many = 2 ∧ bx = [one, two] ∧ w = base + (4 * one + two))) :
    forBody pg G (.var 8) f__law_read_B0 (.t (.int two)) (en ws p w (sD op) (iD base) (iD many) (iD more) (iD one) x) [] = .ok (.rt (.t (hT ws p op bx more))) [] := by
  unfold hT
  by_cases hp : p + more ≥ ws.length
  · rcases hm with ⟨rfl, rfl, h⟩ | ⟨rfl, rfl, h⟩ | ⟨rfl, rfl, h⟩ <;> simp [fnV, evB, evS_asg, evS_fld, evS_sub, evS_expr, evS_retN, evS_ret, evS_ite, evE, evEs, evT, evAnd, evOr, evO, evC, evSr, Res.bind, okIf, idxV, sqOf, cmpV, cmpN, cmpI, truV, binV, asg, asgs, subV, mkL, mkLn, frzL, frzT, allT, isNB, at0, at1, at2, at3, L2.ixN, biV, eq_int, eq_str, line, lsOf_tl, tpOf_tl, scOf_tl, snap_t, allT_il, tl_fold, tl0, tl1, tl2, il0, il1, il2, il_len, lsO_non, tpO_non, scO_non, lsO_bl, tpO_bl, scO_bl, lsO_int, tpO_int, scO_int, lsO_str, tpO_str, scO_str, lsO_tup, tpO_tup, scO_tup, lsO_lst, tpO_lst, scO_lst, lsO_scr, tpO_scr, scO_scr, lsO_ref, tpO_ref, scO_ref, lsO_Dt, tpO_Dt, scO_Dt, lsO_Dl, tpO_Dl, scO_Dl, forBody, f__law_read_B0, en, h, hp]
  · rcases hm with ⟨rfl, rfl, h⟩ | ⟨rfl, rfl, h⟩ | ⟨rfl, rfl, h⟩ <;> simp [fnV, evB, evS_asg, evS_fld, evS_sub, evS_expr, evS_retN, evS_ret, evS_ite, evE, evEs, evT, evAnd, evOr, evO, evC, evSr, Res.bind, okIf, idxV, sqOf, cmpV, cmpN, cmpI, truV, binV, asg, asgs, subV, mkL, mkLn, frzL, frzT, allT, isNB, at0, at1, at2, at3, L2.ixN, biV, eq_int, eq_str, line, lsOf_tl, tpOf_tl, scOf_tl, snap_t, allT_il, tl_fold, tl0, tl1, tl2, il0, il1, il2, il_len, lsO_non, tpO_non, scO_non, lsO_bl, tpO_bl, scO_bl, lsO_int, tpO_int, scO_int, lsO_str, tpO_str, scO_str, lsO_tup, tpO_tup, scO_tup, lsO_lst, tpO_lst, scO_lst, lsO_scr, tpO_scr, scO_scr, lsO_ref, tpO_ref, scO_ref, lsO_Dt, tpO_Dt, scO_Dt, lsO_Dl, tpO_Dl, scO_Dl, forBody, f__law_read_B0, en, h, hp, slcV, cut_il]
theorem b0m {many : Int} (hm : (many = 0 ∧ ¬ w = base) ∨ (many = 1 ∧ ¬ w = base + one) ∨ (many = 2 ∧ ¬ w = base + (4 * one + two))) :
    forBody pg G (.var 8) f__law_read_B0 (.t (.int two)) (en ws p w (sD op) (iD base) (iD many) (iD more) (iD one) x) [] = .ok (.nx (en ws p w (sD op) (iD base) (iD many) (iD more) (iD one) (iD two))) [] := by
  rcases hm with ⟨rfl, h⟩ | ⟨rfl, h⟩ | ⟨rfl, h⟩ <;> simp [fnV, evB, evS_asg, evS_fld, evS_sub, evS_expr, evS_retN, evS_ret, evS_ite, evE, evEs, evT, evAnd, evOr, evO, evC, evSr, Res.bind, okIf, idxV, sqOf, cmpV, cmpN, cmpI, truV, binV, asg, asgs, subV, mkL, mkLn, frzL, frzT, allT, isNB, at0, at1, at2, at3, L2.ixN, biV, eq_int, eq_str, line, lsOf_tl, tpOf_tl, scOf_tl, snap_t, allT_il, tl_fold, tl0, tl1, tl2, il0, il1, il2, il_len, lsO_non, tpO_non, scO_non, lsO_bl, tpO_bl, scO_bl, lsO_int, tpO_int, scO_int, lsO_str, tpO_str, scO_str, lsO_tup, tpO_tup, scO_tup, lsO_lst, tpO_lst, scO_lst, lsO_scr, tpO_scr, scO_scr, lsO_ref, tpO_ref, scO_ref, lsO_Dt, tpO_Dt, scO_Dt, lsO_Dl, tpO_Dl, scO_Dl, forBody, f__law_read_B0, en, h]
theorem rng1 : rngL 0 1 = [.t (.int 0)] := by rfl
theorem rng4 : rngL 0 4 = [.t (.int 0), .t (.int 1), .t (.int 2), .t (.int 3)] := by rfl
theorem forF_rt {b : D → En → Ar → Res Fl} {d : D} {l : List D} {r : En} {M M' : Ar} {v : D} (h : b d r M = .ok (.rt v) M') : forF b (d :: l) r M = .ok (.rt v) M' := by unfold forF; rw [h]; rfl
theorem forF_nx {b : D → En → Ar → Res Fl} {d : D} {l : List D} {r r' : En} {M M' : Ar} (h : b d r M = .ok (.nx r') M') : forF b (d :: l) r M = forF b l r' M' := by
  conv => lhs; unfold forF
  rw [h]; rfl
theorem sr1 {many : Int} (hm : many = 0 ∨ many = 1) : evSr pg G (.rng [(.ife (.cmp .gt (.var 5) (.con (.int 1))) (.con (.int 4)) (.con (.int 1)))]) (en ws p w (sD op) (iD base) (iD many) (iD more) x y) [] = .ok (.fix (rngL 0 1)) [] := by
  rcases hm with rfl | rfl <;> simp [fnV, evB, evS_asg, evS_fld, evS_sub, evS_expr, evS_retN, evS_ret, evS_ite, evE, evEs, evT, evAnd, evOr, evO, evC, evSr, Res.bind, okIf, idxV, sqOf, cmpV, cmpN, cmpI, truV, binV, asg, asgs, subV, mkL, mkLn, frzL, frzT, allT, isNB, at0, at1, at2, at3, L2.ixN, biV, eq_int, eq_str, line, lsOf_tl, tpOf_tl, scOf_tl, snap_t, allT_il, tl_fold, tl0, tl1, tl2, il0, il1, il2, il_len, lsO_non, tpO_non, scO_non, lsO_bl, tpO_bl, scO_bl, lsO_int, tpO_int, scO_int, lsO_str, tpO_str, scO_str, lsO_tup, tpO_tup, scO_tup, lsO_lst, tpO_lst, scO_lst, lsO_scr, tpO_scr, scO_scr, lsO_ref, tpO_ref, scO_ref, lsO_Dt, tpO_Dt, scO_Dt, lsO_Dl, tpO_Dl, scO_Dl, en, srRng, small]
theorem sr2 : evSr pg G (.rng [(.ife (.cmp .gt (.var 5) (.con (.int 1))) (.con (.int 4)) (.con (.int 1)))]) (en ws p w (sD op) (iD base) (iD 2) (iD more) x y) [] = .ok (.fix (rngL 0 4)) [] := by
  simp [fnV, evB, evS_asg, evS_fld, evS_sub, evS_expr, evS_retN, evS_ret, evS_ite, evE, evEs, evT, evAnd, evOr, evO, evC, evSr, Res.bind, okIf, idxV, sqOf, cmpV, cmpN, cmpI, truV, binV, asg, asgs, subV, mkL, mkLn, frzL, frzT, allT, isNB, at0, at1, at2, at3, L2.ixN, biV, eq_int, eq_str, line, lsOf_tl, tpOf_tl, scOf_tl, snap_t, allT_il, tl_fold, tl0, tl1, tl2, il0, il1, il2, il_len, lsO_non, tpO_non, scO_non, lsO_bl, tpO_bl, scO_bl, lsO_int, tpO_int, scO_int, lsO_str, tpO_str, scO_str, lsO_tup, tpO_tup, scO_tup, lsO_lst, tpO_lst, scO_lst, lsO_scr, tpO_scr, scO_scr, lsO_ref, tpO_ref, scO_ref, lsO_Dt, tpO_Dt, scO_Dt, lsO_Dl, tpO_Dl, scO_Dl, en, srRng, small]
theorem sr3 : evSr pg G (.rng [(.ife (.cmp .gt (.var 5) (.con (.int 0))) (.con (.int 4)) (.con (.int 1)))]) (en ws p w (sD op) (iD base) (iD 0) (iD more) x y) [] = .ok (.fix (rngL 0 1)) [] := by
  simp [fnV, evB, evS_asg, evS_fld, evS_sub, evS_expr, evS_retN, evS_ret, evS_ite, evE, evEs, evT, evAnd, evOr, evO, evC, evSr, Res.bind, okIf, idxV, sqOf, cmpV, cmpN, cmpI, truV, binV, asg, asgs, subV, mkL, mkLn, frzL, frzT, allT, isNB, at0, at1, at2, at3, L2.ixN, biV, eq_int, eq_str, line, lsOf_tl, tpOf_tl, scOf_tl, snap_t, allT_il, tl_fold, tl0, tl1, tl2, il0, il1, il2, il_len, lsO_non, tpO_non, scO_non, lsO_bl, tpO_bl, scO_bl, lsO_int, tpO_int, scO_int, lsO_str, tpO_str, scO_str, lsO_tup, tpO_tup, scO_tup, lsO_lst, tpO_lst, scO_lst, lsO_scr, tpO_scr, scO_scr, lsO_ref, tpO_ref, scO_ref, lsO_Dt, tpO_Dt, scO_Dt, lsO_Dl, tpO_Dl, scO_Dl, en, srRng, small]
theorem sr4 {many : Int} (hm : many = 1 ∨ many = 2) : evSr pg G (.rng [(.ife (.cmp .gt (.var 5) (.con (.int 0))) (.con (.int 4)) (.con (.int 1)))]) (en ws p w (sD op) (iD base) (iD many) (iD more) x y) [] = .ok (.fix (rngL 0 4)) [] := by
  rcases hm with rfl | rfl <;> simp [fnV, evB, evS_asg, evS_fld, evS_sub, evS_expr, evS_retN, evS_ret, evS_ite, evE, evEs, evT, evAnd, evOr, evO, evC, evSr, Res.bind, okIf, idxV, sqOf, cmpV, cmpN, cmpI, truV, binV, asg, asgs, subV, mkL, mkLn, frzL, frzT, allT, isNB, at0, at1, at2, at3, L2.ixN, biV, eq_int, eq_str, line, lsOf_tl, tpOf_tl, scOf_tl, snap_t, allT_il, tl_fold, tl0, tl1, tl2, il0, il1, il2, il_len, lsO_non, tpO_non, scO_non, lsO_bl, tpO_bl, scO_bl, lsO_int, tpO_int, scO_int, lsO_str, tpO_str, scO_str, lsO_tup, tpO_tup, scO_tup, lsO_lst, tpO_lst, scO_lst, lsO_scr, tpO_scr, scO_scr, lsO_ref, tpO_ref, scO_ref, lsO_Dt, tpO_Dt, scO_Dt, lsO_Dl, tpO_Dl, scO_Dl, en, srRng, small]
/-- the turns of the second box -/
theorem l0h01 {many : Int} {bx : List Int} (hm : (many = 0 ∧ bx = [] ∧ w = base) ∨ (many = 1 ∧ bx = [one] ∧ w = base + one)) :
    evS pg G f__law_read_L0 (en ws p w (sD op) (iD base) (iD many) (iD more) (iD one) x) [] = .ok (.rt (.t (hT ws p op bx more))) [] := by
  refine evS_for _ _ (sr1 (by rcases hm with h | h; exact .inl h.1; exact .inr h.1)) ?_
  rw [rng1]
  exact forF_rt (b0h (by rcases hm with h | h; exact .inl h; exact .inr (.inl h)))
theorem l0m01 {many : Int} (hm : (many = 0 ∧ ¬ w = base) ∨ (many = 1 ∧ ¬ w = base + one)) :
    evS pg G f__law_read_L0 (en ws p w (sD op) (iD base) (iD many) (iD more) (iD one) x) [] = .ok (.nx (en ws p w (sD op) (iD base) (iD many) (iD more) (iD one) (iD 0))) [] := by
  refine evS_for _ _ (sr1 (by rcases hm with h | h; exact .inl h.1; exact .inr h.1)) ?_
  rw [rng1, forF_nx (b0m (by rcases hm with h | h; exact .inl h; exact .inr (.inl h)))]
  rfl
theorem l0h2 (h0 : 0 ≤ two) (h1 : two < 4) (h : w = base + (4 * one + two)) :
    evS pg G f__law_read_L0 (en ws p w (sD op) (iD base) (iD 2) (iD more) (iD one) x) [] = .ok (.rt (.t (hT ws p op [one, two] more))) [] := by
  refine evS_for _ _ sr2 ?_
  rw [rng4]
  have hc : two = 0 ∨ two = 1 ∨ two = 2 ∨ two = 3 := by omega
  rcases hc with rfl | rfl | rfl | rfl
  · exact forF_rt (b0h (.inr (.inr ⟨rfl, rfl, h⟩)))
  · rw [forF_nx (b0m (.inr (.inr ⟨rfl, by omega⟩)))]
    exact forF_rt (b0h (.inr (.inr ⟨rfl, rfl, h⟩)))
  · rw [forF_nx (b0m (.inr (.inr ⟨rfl, by omega⟩))), forF_nx (b0m (.inr (.inr ⟨rfl, by omega⟩)))]
    exact forF_rt (b0h (.inr (.inr ⟨rfl, rfl, h⟩)))
  · rw [forF_nx (b0m (.inr (.inr ⟨rfl, by omega⟩))), forF_nx (b0m (.inr (.inr ⟨rfl, by omega⟩))), forF_nx (b0m (.inr (.inr ⟨rfl, by omega⟩)))]
    exact forF_rt (b0h (.inr (.inr ⟨rfl, rfl, h⟩)))
theorem l0m2 (h : w < base + 4 * one ∨ base + 4 * one + 4 ≤ w) :
    evS pg G f__law_read_L0 (en ws p w (sD op) (iD base) (iD 2) (iD more) (iD one) x) [] = .ok (.nx (en ws p w (sD op) (iD base) (iD 2) (iD more) (iD one) (iD 3))) [] := by
  refine evS_for _ _ sr2 ?_
  rw [rng4, forF_nx (b0m (.inr (.inr ⟨rfl, by omega⟩))), forF_nx (b0m (.inr (.inr ⟨rfl, by omega⟩))), forF_nx (b0m (.inr (.inr ⟨rfl, by omega⟩))), forF_nx (b0m (.inr (.inr ⟨rfl, by omega⟩)))]
  rfl
/-- the turns of the first box -/
theorem b1 {d : D} {a b c e : Option D} : forBody pg G (.var 7) f__law_read_B1 d (en ws p w a b c e x y) [] = evB pg G [f__law_read_L0] (en ws p w a b c e (some d) y) [] := by
  simp [forBody, asg, en, f__law_read_B1]
theorem one_rt {s : Sm} {r : En} {v : D} (h : evS pg G s r [] = .ok (.rt v) []) : evB pg G [s] r [] = .ok (.rt v) [] := by unfold evB; rw [h]; rfl
theorem one_nx {s : Sm} {r r' : En} (h : evS pg G s r [] = .ok (.nx r') []) : evB pg G [s] r [] = .ok (.nx r') [] := by unfold evB; rw [h]; rfl
theorem l1_0h (h : w = base) : evS pg G f__law_read_L1 (en ws p w (sD op) (iD base) (iD 0) (iD more) x y) [] = .ok (.rt (.t (hT ws p op [] more))) [] := by
  refine evS_for _ _ sr3 ?_
  rw [rng1]
  exact forF_rt (b1.trans (one_rt (l0h01 (.inl ⟨rfl, rfl, h⟩))))
theorem l1_0m (h : ¬ w = base) : evS pg G f__law_read_L1 (en ws p w (sD op) (iD base) (iD 0) (iD more) x y) [] = .ok (.nx (en ws p w (sD op) (iD base) (iD 0) (iD more) (iD 0) (iD 0))) [] := by
  refine evS_for _ _ sr3 ?_
  rw [rng1, forF_nx (b1.trans (one_nx (l0m01 (.inl ⟨rfl, h⟩))))]
  rfl
theorem l1_1h (h0 : 0 ≤ one) (h1 : one < 4) (h : w = base + one) : evS pg G f__law_read_L1 (en ws p w (sD op) (iD base) (iD 1) (iD more) x y) [] = .ok (.rt (.t (hT ws p op [one] more))) [] := by
  refine evS_for _ _ (sr4 (.inl rfl)) ?_
  rw [rng4]
  have hc : one = 0 ∨ one = 1 ∨ one = 2 ∨ one = 3 := by omega
  rcases hc with rfl | rfl | rfl | rfl
  · exact forF_rt (b1.trans (one_rt (l0h01 (.inr ⟨rfl, rfl, h⟩))))
  · rw [forF_nx (b1.trans (one_nx (l0m01 (.inr ⟨rfl, by omega⟩))))]
    exact forF_rt (b1.trans (one_rt (l0h01 (.inr ⟨rfl, rfl, h⟩))))
  · rw [forF_nx (b1.trans (one_nx (l0m01 (.inr ⟨rfl, by omega⟩)))), forF_nx (b1.trans (one_nx (l0m01 (.inr ⟨rfl, by omega⟩))))]
    exact forF_rt (b1.trans (one_rt (l0h01 (.inr ⟨rfl, rfl, h⟩))))
  · rw [forF_nx (b1.trans (one_nx (l0m01 (.inr ⟨rfl, by omega⟩)))), forF_nx (b1.trans (one_nx (l0m01 (.inr ⟨rfl, by omega⟩)))), forF_nx (b1.trans (one_nx (l0m01 (.inr ⟨rfl, by omega⟩))))]
    exact forF_rt (b1.trans (one_rt (l0h01 (.inr ⟨rfl, rfl, h⟩))))
theorem l1_1m (h : w < base ∨ base + 4 ≤ w) : evS pg G f__law_read_L1 (en ws p w (sD op) (iD base) (iD 1) (iD more) x y) [] = .ok (.nx (en ws p w (sD op) (iD base) (iD 1) (iD more) (iD 3) (iD 0))) [] := by
  refine evS_for _ _ (sr4 (.inl rfl)) ?_
  rw [rng4, forF_nx (b1.trans (one_nx (l0m01 (.inr ⟨rfl, by omega⟩)))), forF_nx (b1.trans (one_nx (l0m01 (.inr ⟨rfl, by omega⟩)))), forF_nx (b1.trans (one_nx (l0m01 (.inr ⟨rfl, by omega⟩)))), forF_nx (b1.trans (one_nx (l0m01 (.inr ⟨rfl, by omega⟩))))]
  rfl
theorem l1_2h (h0 : 0 ≤ one) (h1 : one < 4) (t0 : 0 ≤ two) (t1 : two < 4) (h : w = base + (4 * one + two)) : evS pg G f__law_read_L1 (en ws p w (sD op) (iD base) (iD 2) (iD more) x y) [] = .ok (.rt (.t (hT ws p op [one, two] more))) [] := by
  refine evS_for _ _ (sr4 (.inr rfl)) ?_
  rw [rng4]
  have hc : one = 0 ∨ one = 1 ∨ one = 2 ∨ one = 3 := by omega
  rcases hc with rfl | rfl | rfl | rfl
  · exact forF_rt (b1.trans (one_rt (l0h2 t0 t1 h)))
  · rw [forF_nx (b1.trans (one_nx (l0m2 (by omega))))]
    exact forF_rt (b1.trans (one_rt (l0h2 t0 t1 h)))
  · rw [forF_nx (b1.trans (one_nx (l0m2 (by omega)))), forF_nx (b1.trans (one_nx (l0m2 (by omega))))]
    exact forF_rt (b1.trans (one_rt (l0h2 t0 t1 h)))
  · rw [forF_nx (b1.trans (one_nx (l0m2 (by omega)))), forF_nx (b1.trans (one_nx (l0m2 (by omega)))), forF_nx (b1.trans (one_nx (l0m2 (by omega))))]
    exact forF_rt (b1.trans (one_rt (l0h2 t0 t1 h)))
theorem l1_2m (h : w < base ∨ base + 16 ≤ w) : evS pg G f__law_read_L1 (en ws p w (sD op) (iD base) (iD 2) (iD more) x y) [] = .ok (.nx (en ws p w (sD op) (iD base) (iD 2) (iD more) (iD 3) (iD 3))) [] := by
  refine evS_for _ _ (sr4 (.inr rfl)) ?_
  rw [rng4, forF_nx (b1.trans (one_nx (l0m2 (by omega)))), forF_nx (b1.trans (one_nx (l0m2 (by omega)))), forF_nx (b1.trans (one_nx (l0m2 (by omega)))), forF_nx (b1.trans (one_nx (l0m2 (by omega))))]
  rfl
end
/-! the codes -/
abbrev Code : Type := String × Int × Nat × Int
def cT (c : Code) : T := .tup [.str (Str.ofString c.1), .int c.2.1, .int c.2.2.1, .int c.2.2.2]
def cds : List Code := [("stop", 0, 0, 0), ("back", 1, 0, 0), ("say", 4, 1, 0), ("take!", 16, 1, 1), ("move", 32, 2, 0), ("add", 48, 2, 0), ("less", 64, 2, 0), ("load", 80, 1, 1), ("store", 84, 1, 1), ("jump", 96, 0, 1), ("call", 97, 0, 1), ("skip", 99, 0, 1), ("zero", 100, 1, 1), ("same", 112, 2, 1), ("copy", 128, 0, 2)]
theorem codes_ok (k : Nat) : run pg fns (k + 1) 86 [] [] = .ok (.t (.lst (cds.map cT))) [] := okT_ok (by kernel_rfl)
def findC (w : Int) : List Code → Option (String × List Int × Int)
  | [] => none
  | (op, base, 0, more) :: l => if w = base then some (op, [], more) else findC w l
  | (op, base, 1, more) :: l => if base ≤ w ∧ w < base + 4 then some (op, [w - base], more) else findC w l
  | (op, base, _, more) :: l => if base ≤ w ∧ w < base + 16 then some (op, [(w - base) / 4, (w - base) % 4], more) else findC w l
theorem fc0 {w base more : Int} {op : String} {l : List Code} : findC w ((op, base, 0, more) :: l) = if w = base then some (op, [], more) else findC w l := rfl
theorem fc1 {w base more : Int} {op : String} {l : List Code} : findC w ((op, base, 1, more) :: l) = if base ≤ w ∧ w < base + 4 then some (op, [w - base], more) else findC w l := rfl
theorem fc2 {w base more : Int} {op : String} {l : List Code} : findC w ((op, base, 2, more) :: l) = if base ≤ w ∧ w < base + 16 then some (op, [(w - base) / 4, (w - base) % 4], more) else findC w l := rfl
theorem b2 {ws : List Int} {p w : Int} {G : Cal} {c : Code} {x1 x2 x3 x4 x5 x6 : Option D} : forBody pg G (.tup [(.var 3), (.var 4), (.var 5), (.var 6)]) f__law_read_B2 (.t (cT c)) (en ws p w x1 x2 x3 x4 x5 x6) [] = evB pg G [f__law_read_L1] (en ws p w (sD c.1) (iD c.2.1) (iD c.2.2.1) (iD c.2.2.2) x5 x6) [] := by
  simp [forBody, asg, asgs, en, f__law_read_B2, cT, tpO_tup]
theorem find_ok {ws : List Int} {p w : Int} {G : Cal} : ∀ (l : List Code) (x1 x2 x3 x4 x5 x6 : Option D), (∀ c ∈ l, c.2.2.1 ≤ 2) →
    (∃ op bx more, findC w l = some (op, bx, more) ∧ forF (forBody pg G (.tup [(.var 3), (.var 4), (.var 5), (.var 6)]) f__law_read_B2) (l.map fun c => D.t (cT c)) (en ws p w x1 x2 x3 x4 x5 x6) [] = .ok (.rt (.t (hT ws p op bx more))) []) ∨
    (findC w l = none ∧ ∃ y1 y2 y3 y4 y5 y6, forF (forBody pg G (.tup [(.var 3), (.var 4), (.var 5), (.var 6)]) f__law_read_B2) (l.map fun c => D.t (cT c)) (en ws p w x1 x2 x3 x4 x5 x6) [] = .ok (.nx (en ws p w y1 y2 y3 y4 y5 y6)) [])
  | [], x1, x2, x3, x4, x5, x6, _ => .inr ⟨rfl, x1, x2, x3, x4, x5, x6, rfl⟩
  | (op, base, n, more) :: l, x1, x2, x3, x4, x5, x6, hl => by
    have hn := hl _ List.mem_cons_self
    have ih := fun x1 x2 x3 x4 x5 x6 => find_ok (ws := ws) (p := p) (w := w) (G := G) l x1 x2 x3 x4 x5 x6 (fun c hc => hl c (List.mem_cons_of_mem _ hc))
    rw [List.map_cons]
    have hc : n = 0 ∨ n = 1 ∨ n = 2 := by have : n ≤ 2 := hn; omega
    rcases hc with rfl | rfl | rfl
    · by_cases h : w = base
      · exact .inl ⟨op, [], more, by rw [fc0, if_pos h], forF_rt (b2.trans (one_rt (l1_0h h)))⟩
      · rw [forF_nx (b2.trans (one_nx (l1_0m h)))]
        have e : findC w ((op, base, 0, more) :: l) = findC w l := by rw [fc0, if_neg h]
        rw [e]
        exact ih _ _ _ _ _ _
    · by_cases h : base ≤ w ∧ w < base + 4
      · exact .inl ⟨op, [w - base], more, by rw [fc1, if_pos h], forF_rt (b2.trans (one_rt (l1_1h (by omega) (by omega) (show w = base + (w - base) by omega))))⟩
      · rw [forF_nx (b2.trans (one_nx (l1_1m (show w < base ∨ base + 4 ≤ w by omega))))]
        have e : findC w ((op, base, 1, more) :: l) = findC w l := by rw [fc1, if_neg h]
        rw [e]
        exact ih _ _ _ _ _ _
    · by_cases h : base ≤ w ∧ w < base + 16
      · exact .inl ⟨op, [(w - base) / 4, (w - base) % 4], more, by rw [fc2, if_pos h], forF_rt (b2.trans (one_rt (l1_2h (by omega) (by omega) (by omega) (by omega) (show w = base + (4 * ((w - base) / 4) + (w - base) % 4) by omega))))⟩
      · rw [forF_nx (b2.trans (one_nx (l1_2m (show w < base ∨ base + 16 ≤ w by omega))))]
        have e : findC w ((op, base, 2, more) :: l) = findC w l := by rw [fc2, if_neg h]
        rw [e]
        exact ih _ _ _ _ _ _
def kdC (o : Option (String × List Int × Int)) : Option (String × List Int × Int × Option Int) := o.map fun z => (z.1, z.2.1, z.2.2, none)
theorem kd_find_all : ((List.range 256).all fun w => (decide (144 ≤ w) && decide (w < 176)) || decide (kd w = kdC (findC (Int.ofNat w) cds))) = true := by kernel_rfl
theorem kd_find {w : Int} (h0 : 0 ≤ w) (h1 : w < 256) (h : ¬ (144 ≤ w ∧ w < 176)) : kd w.toNat = kdC (findC w cds) := by
  have := List.all_eq_true.mp kd_find_all w.toNat (List.mem_range.mpr (by omega))
  have e : Int.ofNat w.toNat = w := Int.toNat_of_nonneg h0
  rw [e] at this
  rcases Bool.or_eq_true_iff.mp this with z | z
  · obtain ⟨z1, z2⟩ := ba2 z
    have := of_decide_eq_true z1
    have := of_decide_eq_true z2
    omega
  · exact of_decide_eq_true z
theorem read_ok (k : Nat) {ws : List Int} {p : Int} (hw : Ws ws) : run pg fns (k + 2) 88 [.t (tl ws), .t (.int p)] [] = .ok (.t (rT (rowF ws p))) [] := by
  rw [run_at (fn := f__law_read) (by kernel_rfl)]
  by_cases hp : 0 ≤ p ∧ p < ws.length
  · obtain ⟨h0, h1⟩ := hp
    obtain ⟨w0, w1⟩ := hw.get (i := p.toNat) (by omega)
    have hat := atI_il h0 h1
    unfold rowF
    rw [if_pos ⟨h0, h1⟩]
    generalize ws.getD p.toNat 0 = w at w0 w1 hat ⊢
    by_cases ht : 144 ≤ w ∧ w < 176
    · obtain ⟨t0, t1⟩ := ht
      have q : kd w.toNat = some ("take", [(w - 144) / 8], 0, some ((w - 144) % 8)) := by
        unfold kd
        rw [if_pos ⟨by omega, by omega⟩, Int.toNat_of_nonneg w0]
      have hm : ¬ p + 1 + 0 > ws.length := by omega
      have hm' : ¬ (ws.length : Int) < p + 1 := by omega
      rw [q]
      simp [fnV, evB, evS_asg, evS_fld, evS_sub, evS_expr, evS_retN, evS_ret, evS_ite, evE, evEs, evT, evAnd, evOr, evO, evC, evSr, Res.bind, okIf, idxV, sqOf, cmpV, cmpN, cmpI, truV, binV, asg, asgs, subV, mkL, mkLn, frzL, frzT, allT, isNB, at0, at1, at2, at3, L2.ixN, biV, eq_int, eq_str, line, lsOf_tl, tpOf_tl, scOf_tl, snap_t, allT_il, tl_fold, tl0, tl1, tl2, il0, il1, il2, il_len, lsO_non, tpO_non, scO_non, lsO_bl, tpO_bl, scO_bl, lsO_int, tpO_int, scO_int, lsO_str, tpO_str, scO_str, lsO_tup, tpO_tup, scO_tup, lsO_lst, tpO_lst, scO_lst, lsO_scr, tpO_scr, scO_scr, lsO_ref, tpO_ref, scO_ref, lsO_Dt, tpO_Dt, scO_Dt, lsO_Dl, tpO_Dl, scO_Dl, f__law_read, h0, h1, hat, t0, t1, rT, hm', shL]
    · rw [kd_find w0 w1 ht]
      have hs : evSr pg (run pg fns (k + 1)) (.seq (.call .clean 86 [])) (en ws p w none none none none none none) [] = .ok (.fix (cds.map fun c => D.t (cT c))) [] := by
        simp [fnV, evB, evS_asg, evS_fld, evS_sub, evS_expr, evS_retN, evS_ret, evS_ite, evE, evEs, evT, evAnd, evOr, evO, evC, evSr, Res.bind, okIf, idxV, sqOf, cmpV, cmpN, cmpI, truV, binV, asg, asgs, subV, mkL, mkLn, frzL, frzT, allT, isNB, at0, at1, at2, at3, L2.ixN, biV, eq_int, eq_str, line, lsOf_tl, tpOf_tl, scOf_tl, snap_t, allT_il, tl_fold, tl0, tl1, tl2, il0, il1, il2, il_len, lsO_non, tpO_non, scO_non, lsO_bl, tpO_bl, scO_bl, lsO_int, tpO_int, scO_int, lsO_str, tpO_str, scO_str, lsO_tup, tpO_tup, scO_tup, lsO_lst, tpO_lst, scO_lst, lsO_scr, tpO_scr, scO_scr, lsO_ref, tpO_ref, scO_ref, lsO_Dt, tpO_Dt, scO_Dt, lsO_Dl, tpO_Dl, scO_Dl, callV, codes_ok, srSeq, Function.comp_def]
      have ht2 : ¬ (144 ≤ w) ∨ ¬ (w < 176) := by omega
      rcases find_ok (ws := ws) (p := p) (w := w) (G := run pg fns (k + 1)) cds none none none none none none (by decide) with ⟨op, bx, more, e1, e2⟩ | ⟨e1, y1, y2, y3, y4, y5, y6, e2⟩
      · have e3 : evS pg (run pg fns (k + 1)) f__law_read_L2 [some (.t (tl ws)), some (.t (.int p)), some (.t (.int w)), none, none, none, none, none, none] [] = _ := evS_for _ _ hs e2
        rw [e1]
        have e4 : rT (if p + 1 + more > ws.length then none else some (op, bx, shL ws p more none, 1 + more)) = hT ws p op bx more := by
          unfold hT
          by_cases hm : p + 1 + more > ws.length
          · rw [if_pos hm, if_pos (by omega)]; rfl
          · rw [if_neg hm, if_neg (by omega)]; rfl
        show _ = Res.ok (D.t (rT (if p + 1 + more > ws.length then none else some (op, bx, shL ws p more none, 1 + more)))) []
        rw [e4]
        rcases ht2 with t | t <;> simp [fnV, evB, evS_asg, evS_fld, evS_sub, evS_expr, evS_retN, evS_ret, evS_ite, evE, evEs, evT, evAnd, evOr, evO, evC, evSr, Res.bind, okIf, idxV, sqOf, cmpV, cmpN, cmpI, truV, binV, asg, asgs, subV, mkL, mkLn, frzL, frzT, allT, isNB, at0, at1, at2, at3, L2.ixN, biV, eq_int, eq_str, line, lsOf_tl, tpOf_tl, scOf_tl, snap_t, allT_il, tl_fold, tl0, tl1, tl2, il0, il1, il2, il_len, lsO_non, tpO_non, scO_non, lsO_bl, tpO_bl, scO_bl, lsO_int, tpO_int, scO_int, lsO_str, tpO_str, scO_str, lsO_tup, tpO_tup, scO_tup, lsO_lst, tpO_lst, scO_lst, lsO_scr, tpO_scr, scO_scr, lsO_ref, tpO_ref, scO_ref, lsO_Dt, tpO_Dt, scO_Dt, lsO_Dl, tpO_Dl, scO_Dl, f__law_read, h0, h1, hat, t, e3]
        by_cases t0 : 144 ≤ w <;> simp [t0, fnV, evB, evS_asg, evS_fld, evS_sub, evS_expr, evS_retN, evS_ret, evS_ite, evE, evEs, evT, evAnd, evOr, evO, evC, evSr, Res.bind, okIf, idxV, sqOf, cmpV, cmpN, cmpI, truV, binV, asg, asgs, subV, mkL, mkLn, frzL, frzT, allT, isNB, at0, at1, at2, at3, L2.ixN, biV, eq_int, eq_str, line, lsOf_tl, tpOf_tl, scOf_tl, snap_t, allT_il, tl_fold, tl0, tl1, tl2, il0, il1, il2, il_len, lsO_non, tpO_non, scO_non, lsO_bl, tpO_bl, scO_bl, lsO_int, tpO_int, scO_int, lsO_str, tpO_str, scO_str, lsO_tup, tpO_tup, scO_tup, lsO_lst, tpO_lst, scO_lst, lsO_scr, tpO_scr, scO_scr, lsO_ref, tpO_ref, scO_ref, lsO_Dt, tpO_Dt, scO_Dt, lsO_Dl, tpO_Dl, scO_Dl, e3]
      · have e3 : evS pg (run pg fns (k + 1)) f__law_read_L2 [some (.t (tl ws)), some (.t (.int p)), some (.t (.int w)), none, none, none, none, none, none] [] = _ := evS_for _ _ hs e2
        rw [e1]
        rcases ht2 with t | t <;> simp [fnV, evB, evS_asg, evS_fld, evS_sub, evS_expr, evS_retN, evS_ret, evS_ite, evE, evEs, evT, evAnd, evOr, evO, evC, evSr, Res.bind, okIf, idxV, sqOf, cmpV, cmpN, cmpI, truV, binV, asg, asgs, subV, mkL, mkLn, frzL, frzT, allT, isNB, at0, at1, at2, at3, L2.ixN, biV, eq_int, eq_str, line, lsOf_tl, tpOf_tl, scOf_tl, snap_t, allT_il, tl_fold, tl0, tl1, tl2, il0, il1, il2, il_len, lsO_non, tpO_non, scO_non, lsO_bl, tpO_bl, scO_bl, lsO_int, tpO_int, scO_int, lsO_str, tpO_str, scO_str, lsO_tup, tpO_tup, scO_tup, lsO_lst, tpO_lst, scO_lst, lsO_scr, tpO_scr, scO_scr, lsO_ref, tpO_ref, scO_ref, lsO_Dt, tpO_Dt, scO_Dt, lsO_Dl, tpO_Dl, scO_Dl, f__law_read, h0, h1, hat, t, e3, kdC, rT]
        by_cases t0 : 144 ≤ w <;> simp [t0, fnV, evB, evS_asg, evS_fld, evS_sub, evS_expr, evS_retN, evS_ret, evS_ite, evE, evEs, evT, evAnd, evOr, evO, evC, evSr, Res.bind, okIf, idxV, sqOf, cmpV, cmpN, cmpI, truV, binV, asg, asgs, subV, mkL, mkLn, frzL, frzT, allT, isNB, at0, at1, at2, at3, L2.ixN, biV, eq_int, eq_str, line, lsOf_tl, tpOf_tl, scOf_tl, snap_t, allT_il, tl_fold, tl0, tl1, tl2, il0, il1, il2, il_len, lsO_non, tpO_non, scO_non, lsO_bl, tpO_bl, scO_bl, lsO_int, tpO_int, scO_int, lsO_str, tpO_str, scO_str, lsO_tup, tpO_tup, scO_tup, lsO_lst, tpO_lst, scO_lst, lsO_scr, tpO_scr, scO_scr, lsO_ref, tpO_ref, scO_ref, lsO_Dt, tpO_Dt, scO_Dt, lsO_Dl, tpO_Dl, scO_Dl, e3]
  · unfold rowF
    rw [if_neg hp]
    by_cases h0 : 0 ≤ p
    · have h1 : ¬ p < ws.length := fun z => hp ⟨h0, z⟩
      simp [fnV, evB, evS_asg, evS_fld, evS_sub, evS_expr, evS_retN, evS_ret, evS_ite, evE, evEs, evT, evAnd, evOr, evO, evC, evSr, Res.bind, okIf, idxV, sqOf, cmpV, cmpN, cmpI, truV, binV, asg, asgs, subV, mkL, mkLn, frzL, frzT, allT, isNB, at0, at1, at2, at3, L2.ixN, biV, eq_int, eq_str, line, lsOf_tl, tpOf_tl, scOf_tl, snap_t, allT_il, tl_fold, tl0, tl1, tl2, il0, il1, il2, il_len, lsO_non, tpO_non, scO_non, lsO_bl, tpO_bl, scO_bl, lsO_int, tpO_int, scO_int, lsO_str, tpO_str, scO_str, lsO_tup, tpO_tup, scO_tup, lsO_lst, tpO_lst, scO_lst, lsO_scr, tpO_scr, scO_scr, lsO_ref, tpO_ref, scO_ref, lsO_Dt, tpO_Dt, scO_Dt, lsO_Dl, tpO_Dl, scO_Dl, f__law_read, h0, h1, rT]
    · simp [fnV, evB, evS_asg, evS_fld, evS_sub, evS_expr, evS_retN, evS_ret, evS_ite, evE, evEs, evT, evAnd, evOr, evO, evC, evSr, Res.bind, okIf, idxV, sqOf, cmpV, cmpN, cmpI, truV, binV, asg, asgs, subV, mkL, mkLn, frzL, frzT, allT, isNB, at0, at1, at2, at3, L2.ixN, biV, eq_int, eq_str, line, lsOf_tl, tpOf_tl, scOf_tl, snap_t, allT_il, tl_fold, tl0, tl1, tl2, il0, il1, il2, il_len, lsO_non, tpO_non, scO_non, lsO_bl, tpO_bl, scO_bl, lsO_int, tpO_int, scO_int, lsO_str, tpO_str, scO_str, lsO_tup, tpO_tup, scO_tup, lsO_lst, tpO_lst, scO_lst, lsO_scr, tpO_scr, scO_scr, lsO_ref, tpO_ref, scO_ref, lsO_Dt, tpO_Dt, scO_Dt, lsO_Dl, tpO_Dl, scO_Dl, f__law_read, h0, rT]
end Rw.K02
end

section
set_option Elab.async false
set_option linter.all false
set_option maxRecDepth 100000
set_option maxHeartbeats 0
/-! k02: the machine -/
namespace Rw.K02
open PySem
inductive Op where
  | take (b n : Int) | takeB (b n : Int) | stop | back | say (b : Int) | move (b c : Int) | add (b c : Int) | less (b c : Int) | load (b n : Int) | store (b n : Int)
  | jump (n : Int) | call (n : Int) | skip (n : Int) | zero (b n : Int) | same (b c n : Int) | copy (n m : Int)
def Op.row : Op → Row
  | .take b n => ("take", [b], [n], 1)
  | .takeB b n => ("take!", [b], [n], 2)
  | .stop => ("stop", [], [], 1)
  | .back => ("back", [], [], 1)
  | .say b => ("say", [b], [], 1)
  | .move b c => ("move", [b, c], [], 1)
  | .add b c => ("add", [b, c], [], 1)
  | .less b c => ("less", [b, c], [], 1)
  | .load b n => ("load", [b], [n], 2)
  | .store b n => ("store", [b], [n], 2)
  | .jump n => ("jump", [], [n], 2)
  | .call n => ("call", [], [n], 2)
  | .skip n => ("skip", [], [n], 2)
  | .zero b n => ("zero", [b], [n], 2)
  | .same b c n => ("same", [b, c], [n], 2)
  | .copy n m => ("copy", [], [n, m], 3)
def bo (b : Int) : Prop := 0 ≤ b ∧ b < 4
def no (n : Int) : Prop := 0 ≤ n ∧ n < 256
def Op.good : Op → Prop
  | .take b n => bo b ∧ no n
  | .takeB b n => bo b ∧ no n
  | .stop => True
  | .back => True
  | .say b => bo b
  | .move b c => bo b ∧ bo c
  | .add b c => bo b ∧ bo c
  | .less b c => bo b ∧ bo c
  | .load b n => bo b ∧ no n
  | .store b n => bo b ∧ no n
  | .jump n => no n
  | .call n => no n
  | .skip n => no n
  | .zero b n => bo b ∧ no n
  | .same b c n => bo b ∧ bo c ∧ no n
  | .copy n m => no n ∧ no m
theorem cutN {ws : List Int} {p : Int} {m : Nat} (h0 : 0 ≤ p) (h1 : p + 1 + m ≤ ws.length) : cut ws (some (p + 1)) (some (p + 1 + m)) = (ws.drop (p + 1).toNat).take m := by
  have e1 : HT.sIx ws.length 0 (some (p + 1)) = (p + 1).toNat := by
    show (if p + 1 < 0 then _ else min (p + 1).toNat ws.length) = _
    rw [if_neg (by omega)]; omega
  have e2 : HT.sIx ws.length ws.length (some (p + 1 + m)) = (p + 1).toNat + m := by
    show (if p + 1 + m < 0 then _ else min (p + 1 + m).toNat ws.length) = _
    rw [if_neg (by omega)]; omega
  unfold cut
  rw [e1, e2, Nat.add_sub_cancel_left]
theorem cut0 {ws : List Int} {p : Int} (h0 : 0 ≤ p) (h1 : p + 1 + 0 ≤ ws.length) : cut ws (some (p + 1)) (some (p + 1 + 0)) = [] := by
  have := cutN (m := 0) h0 h1
  simpa using this
theorem cut1 {ws : List Int} {p : Int} (hw : Ws ws) (h0 : 0 ≤ p) (h1 : p + 1 + 1 ≤ ws.length) : ∃ n, cut ws (some (p + 1)) (some (p + 1 + 1)) = [n] ∧ no n := by
  have e := cutN (m := 1) h0 h1
  have hl : (p + 1).toNat < ws.length := by omega
  refine ⟨ws[(p + 1).toNat], ?_, hw _ (List.getElem_mem hl)⟩
  rw [show (p + 1 + 1) = p + 1 + ((1 : Nat) : Int) from rfl, e, List.drop_eq_getElem_cons hl]
  rfl
theorem cut2 {ws : List Int} {p : Int} (hw : Ws ws) (h0 : 0 ≤ p) (h1 : p + 1 + 2 ≤ ws.length) : ∃ n m, cut ws (some (p + 1)) (some (p + 1 + 2)) = [n, m] ∧ no n ∧ no m := by
  have e := cutN (m := 2) h0 h1
  have hl : (p + 1).toNat < ws.length := by omega
  have hl2 : (p + 1).toNat + 1 < ws.length := by omega
  refine ⟨ws[(p + 1).toNat], ws[(p + 1).toNat + 1], ?_, hw _ (List.getElem_mem hl), hw _ (List.getElem_mem hl2)⟩
  rw [show (p + 1 + 2) = p + 1 + ((2 : Nat) : Int) from rfl, e, List.drop_eq_getElem_cons hl, List.drop_eq_getElem_cons hl2]
  rfl
theorem row_op {ws : List Int} {p : Int} {r : Row} (hw : Ws ws) (h : rowF ws p = some r) : ∃ o : Op, o.good ∧ r = o.row := by
  unfold rowF at h
  by_cases hp : 0 ≤ p ∧ p < ws.length
  · rw [if_pos hp] at h
    obtain ⟨h0, h1⟩ := hp
    obtain ⟨w0, w1⟩ := hw.get (i := p.toNat) (by omega)
    generalize ws.getD p.toNat 0 = w at w0 w1 h
    have key : ∀ op bx more sh, kd w.toNat = some (op, bx, more, sh) → ¬ p + 1 + more > ws.length → r = (op, bx, shL ws p more sh, 1 + more) → ∃ o : Op, o.good ∧ r = o.row := by
      intro op bx more sh hk hm hr
      have ew : ((w.toNat : Nat) : Int) = w := Int.toNat_of_nonneg w0
      unfold kd at hk
      rw [ew] at hk
      generalize w.toNat = v at hk ew
      by_cases c0 : 144 ≤ v ∧ v < 176
      · rw [if_pos c0] at hk; cases hk
        exact ⟨.take ((w - 144) / 8) ((w - 144) % 8), ⟨⟨by omega, by omega⟩, ⟨by omega, by omega⟩⟩, hr⟩
      rw [if_neg c0] at hk
      by_cases c1 : v < 1
      · rw [if_pos c1] at hk; cases hk
        exact ⟨.stop, trivial, by rw [hr]; show (_, _, cut _ _ _, _) = _; rw [cut0 h0 (by omega)]; rfl⟩
      rw [if_neg c1] at hk
      by_cases c2 : v < 2
      · rw [if_pos c2] at hk; cases hk
        exact ⟨.back, trivial, by rw [hr]; show (_, _, cut _ _ _, _) = _; rw [cut0 h0 (by omega)]; rfl⟩
      rw [if_neg c2] at hk
      by_cases c3 : v < 4
      · rw [if_pos c3] at hk; cases hk
      rw [if_neg c3] at hk
      by_cases c4 : v < 8
      · rw [if_pos c4] at hk; cases hk
        exact ⟨.say (w - 4), ⟨by omega, by omega⟩, by rw [hr]; show (_, _, cut _ _ _, _) = _; rw [cut0 h0 (by omega)]; rfl⟩
      rw [if_neg c4] at hk
      by_cases c5 : v < 16
      · rw [if_pos c5] at hk; cases hk
      rw [if_neg c5] at hk
      by_cases c6 : v < 20
      · rw [if_pos c6] at hk; cases hk
        obtain ⟨n, e, hn⟩ := cut1 hw h0 (by omega)
        exact ⟨.takeB (w - 16) n, ⟨⟨by omega, by omega⟩, hn⟩, by rw [hr]; show (_, _, cut _ _ _, _) = _; rw [e]; rfl⟩
      rw [if_neg c6] at hk
      by_cases c7 : v < 32
      · rw [if_pos c7] at hk; cases hk
      rw [if_neg c7] at hk
      by_cases c8 : v < 48
      · rw [if_pos c8] at hk; cases hk
        exact ⟨.move ((w - 32) / 4) ((w - 32) % 4), ⟨⟨by omega, by omega⟩, ⟨by omega, by omega⟩⟩, by rw [hr]; show (_, _, cut _ _ _, _) = _; rw [cut0 h0 (by omega)]; rfl⟩
      rw [if_neg c8] at hk
      by_cases c9 : v < 64
      · rw [if_pos c9] at hk; cases hk
        exact ⟨.add ((w - 48) / 4) ((w - 48) % 4), ⟨⟨by omega, by omega⟩, ⟨by omega, by omega⟩⟩, by rw [hr]; show (_, _, cut _ _ _, _) = _; rw [cut0 h0 (by omega)]; rfl⟩
      rw [if_neg c9] at hk
      by_cases c10 : v < 80
      · rw [if_pos c10] at hk; cases hk
        exact ⟨.less ((w - 64) / 4) ((w - 64) % 4), ⟨⟨by omega, by omega⟩, ⟨by omega, by omega⟩⟩, by rw [hr]; show (_, _, cut _ _ _, _) = _; rw [cut0 h0 (by omega)]; rfl⟩
      rw [if_neg c10] at hk
      by_cases c11 : v < 84
      · rw [if_pos c11] at hk; cases hk
        obtain ⟨n, e, hn⟩ := cut1 hw h0 (by omega)
        exact ⟨.load (w - 80) n, ⟨⟨by omega, by omega⟩, hn⟩, by rw [hr]; show (_, _, cut _ _ _, _) = _; rw [e]; rfl⟩
      rw [if_neg c11] at hk
      by_cases c12 : v < 88
      · rw [if_pos c12] at hk; cases hk
        obtain ⟨n, e, hn⟩ := cut1 hw h0 (by omega)
        exact ⟨.store (w - 84) n, ⟨⟨by omega, by omega⟩, hn⟩, by rw [hr]; show (_, _, cut _ _ _, _) = _; rw [e]; rfl⟩
      rw [if_neg c12] at hk
      by_cases c13 : v < 96
      · rw [if_pos c13] at hk; cases hk
      rw [if_neg c13] at hk
      by_cases c14 : v < 97
      · rw [if_pos c14] at hk; cases hk
        obtain ⟨n, e, hn⟩ := cut1 hw h0 (by omega)
        exact ⟨.jump n, hn, by rw [hr]; show (_, _, cut _ _ _, _) = _; rw [e]; rfl⟩
      rw [if_neg c14] at hk
      by_cases c15 : v < 98
      · rw [if_pos c15] at hk; cases hk
        obtain ⟨n, e, hn⟩ := cut1 hw h0 (by omega)
        exact ⟨.call n, hn, by rw [hr]; show (_, _, cut _ _ _, _) = _; rw [e]; rfl⟩
      rw [if_neg c15] at hk
      by_cases c16 : v < 99
      · rw [if_pos c16] at hk; cases hk
      rw [if_neg c16] at hk
      by_cases c17 : v < 100
      · rw [if_pos c17] at hk; cases hk
        obtain ⟨n, e, hn⟩ := cut1 hw h0 (by omega)
        exact ⟨.skip n, hn, by rw [hr]; show (_, _, cut _ _ _, _) = _; rw [e]; rfl⟩
      rw [if_neg c17] at hk
      by_cases c18 : v < 104
      · rw [if_pos c18] at hk; cases hk
        obtain ⟨n, e, hn⟩ := cut1 hw h0 (by omega)
        exact ⟨.zero (w - 100) n, ⟨⟨by omega, by omega⟩, hn⟩, by rw [hr]; show (_, _, cut _ _ _, _) = _; rw [e]; rfl⟩
      rw [if_neg c18] at hk
      by_cases c19 : v < 112
      · rw [if_pos c19] at hk; cases hk
      rw [if_neg c19] at hk
      by_cases c20 : v < 128
      · rw [if_pos c20] at hk; cases hk
        obtain ⟨n, e, hn⟩ := cut1 hw h0 (by omega)
        exact ⟨.same ((w - 112) / 4) ((w - 112) % 4) n, ⟨⟨by omega, by omega⟩, ⟨by omega, by omega⟩, hn⟩, by rw [hr]; show (_, _, cut _ _ _, _) = _; rw [e]; rfl⟩
      rw [if_neg c20] at hk
      by_cases c21 : v < 129
      · rw [if_pos c21] at hk; cases hk
        obtain ⟨n, m, e, hn, hm⟩ := cut2 hw h0 (by omega)
        exact ⟨.copy n m, ⟨hn, hm⟩, by rw [hr]; show (_, _, cut _ _ _, _) = _; rw [e]; rfl⟩
      rw [if_neg c21] at hk
      cases hk
    cases q : kd w.toNat with
    | none => rw [q] at h; cases h
    | some z =>
      obtain ⟨op, bx, more, sh⟩ := z
      rw [q] at h
      by_cases hm : p + 1 + more > ws.length
      · simp only [if_pos hm] at h; cases h
      · simp only [if_neg hm] at h; exact key op bx more sh q hm (Option.some.inj h).symm
  · rw [if_neg hp] at h; cases h
/-! the machine -/
structure Mc where
  cells : List Int
  boxes : List Int
  place : Int
  calls : List Int
  says : List Int
  why : String
  past : List Int
def at_ (l : List Int) (i : Int) : Int := l.getD i.toNat 0
def Op.do (s : Mc) : Op → Mc
  | .take b n => { s with boxes := s.boxes.set b.toNat n, place := s.place + 1 }
  | .takeB b n => { s with boxes := s.boxes.set b.toNat n, place := s.place + 2 }
  | .stop => { s with why := "stop" }
  | .back => if s.calls = [] then { s with why := "back" } else { s with place := s.calls.getLastD 0, calls := s.calls.dropLast }
  | .say b => { s with says := s.says ++ [at_ s.boxes b], place := s.place + 1 }
  | .move b c => { s with boxes := s.boxes.set b.toNat (at_ s.boxes c % 256), place := s.place + 1 }
  | .add b c => { s with boxes := s.boxes.set b.toNat ((at_ s.boxes b + at_ s.boxes c) % 256), place := s.place + 1 }
  | .less b c => { s with boxes := s.boxes.set b.toNat ((at_ s.boxes b - at_ s.boxes c) % 256), place := s.place + 1 }
  | .load b n => { s with boxes := s.boxes.set b.toNat (at_ s.cells n), place := s.place + 2 }
  | .store b n => { s with cells := s.cells.set n.toNat (at_ s.boxes b), place := s.place + 2 }
  | .jump n => { s with place := n }
  | .call n => if s.calls.length = 16 then { s with why := "deep" } else { s with calls := s.calls ++ [s.place + 2], place := n }
  | .skip n => { s with place := s.place + 2 + (if n ≥ 128 then n - 256 else n) }
  | .zero b n => { s with place := if at_ s.boxes b = 0 then n else s.place + 2 }
  | .same b c n => { s with place := if at_ s.boxes b = at_ s.boxes c then n else s.place + 2 }
  | .copy n m => { s with cells := s.cells.set m.toNat (at_ s.cells n), place := s.place + 3 }
structure Mc.ok (s : Mc) : Prop where
  c : s.cells.length = 256
  b : s.boxes.length = 4
  l : s.calls.length ≤ 16
  p : s.past.length ≤ 1000
  y : s.says.length ≤ 1000
def MA (ws : List Int) (s : Mc) : Ar := [.obj 0 [("words", .t (tl ws)), ("cells", .ref 1), ("boxes", .ref 2), ("place", .t (.int s.place)), ("calls", .ref 3), ("says", .ref 4), ("why", .t (.str (Str.ofString s.why))), ("past", .ref 5)],
  .lst (il s.cells), .lst (il s.boxes), .lst (il s.calls), .lst (il s.says), .lst (il s.past)]
end Rw.K02
end

section
set_option Elab.async false
set_option linter.all false
set_option maxRecDepth 100000
set_option maxHeartbeats 0
/-! k02: the program's machine does as the model -/
namespace Rw.K02
open PySem
theorem at_il {l : List Int} {i : Int} {n : Nat} (hl : l.length = n) (h0 : 0 ≤ i) (h1 : i < n) : L2.atI (il l) i = some (.t (.int (at_ l i))) := atI_il h0 (by omega)
theorem fn_do : fns 9 = some f_Machine_do := by kernel_rfl
theorem fn_step : fns 8 = some f_Machine_step := by kernel_rfl
theorem fn_down : fns 10 = some f_Machine_go_down := by kernel_rfl
theorem fn_back : fns 11 = some f_Machine_come_back := by kernel_rfl
theorem fn_reckon : fns 12 = some f_Machine_reckon := by kernel_rfl
theorem fn_goals : fns 6 = some f_goals_of := by kernel_rfl
theorem fn_signed : fns 5 = some f_signed := by kernel_rfl
theorem gl0 : pg.consts[0]? = some (("SIZE" : Str), T.int 256) := by kernel_rfl
theorem gl5 : pg.consts[5]? = some (("DEEPEST" : Str), T.int 16) := by kernel_rfl
theorem signed_ok {k : Nat} {n : Int} : run pg fns (k + 1) 5 [.t (.int n)] [] = .ok (.t (.int (if n ≥ 128 then n - 256 else n))) [] := by
  rw [run_at fn_signed]
  by_cases h : n ≥ 128
  · have h' : (128 : Int) ≤ n := h
    simp [fnV, evB, evS_asg, evS_fld, evS_sub, evS_expr, evS_retN, evS_ret, evS_ite, evE, evEs, evT, evAnd, evOr, evO, evC, evSr, Res.bind, okIf, idxV, sqOf, cmpV, cmpN, cmpI, truV, binV, asg, asgs, subV, mkL, mkLn, frzL, frzT, allT, isNB, at0, at1, at2, at3, L2.ixN, biV, eq_int, eq_str, line, lsOf_tl, tpOf_tl, scOf_tl, snap_t, allT_il, tl_fold, tl0, tl1, tl2, il0, il1, il2, il_len, lsO_non, tpO_non, scO_non, lsO_bl, tpO_bl, scO_bl, lsO_int, tpO_int, scO_int, lsO_str, tpO_str, scO_str, lsO_tup, tpO_tup, scO_tup, lsO_lst, tpO_lst, scO_lst, lsO_scr, tpO_scr, scO_scr, lsO_ref, tpO_ref, scO_ref, lsO_Dt, tpO_Dt, scO_Dt, lsO_Dl, tpO_Dl, scO_Dl, f_signed, gl0, h']
  · have h' : ¬ (128 : Int) ≤ n := h
    simp [fnV, evB, evS_asg, evS_fld, evS_sub, evS_expr, evS_retN, evS_ret, evS_ite, evE, evEs, evT, evAnd, evOr, evO, evC, evSr, Res.bind, okIf, idxV, sqOf, cmpV, cmpN, cmpI, truV, binV, asg, asgs, subV, mkL, mkLn, frzL, frzT, allT, isNB, at0, at1, at2, at3, L2.ixN, biV, eq_int, eq_str, line, lsOf_tl, tpOf_tl, scOf_tl, snap_t, allT_il, tl_fold, tl0, tl1, tl2, il0, il1, il2, il_len, lsO_non, tpO_non, scO_non, lsO_bl, tpO_bl, scO_bl, lsO_int, tpO_int, scO_int, lsO_str, tpO_str, scO_str, lsO_tup, tpO_tup, scO_tup, lsO_lst, tpO_lst, scO_lst, lsO_scr, tpO_scr, scO_scr, lsO_ref, tpO_ref, scO_ref, lsO_Dt, tpO_Dt, scO_Dt, lsO_Dl, tpO_Dl, scO_Dl, f_signed, gl0, h']
def goalsT (p : Int) : Op → T
  | .stop => .tup [.lst [], .bl false]
  | .back => .tup [.lst [], .bl false]
  | .jump n => .tup [.lst [.int n], .bl false]
  | .skip n => .tup [.lst [.int (p + 2 + (if n ≥ 128 then n - 256 else n))], .bl false]
  | .call n => .tup [.lst [.int n], .bl true]
  | .zero _ n => .tup [.lst [.int n], .bl true]
  | .same _ _ n => .tup [.lst [.int n], .bl true]
  | _ => .tup [.lst [], .bl true]
theorem goals_ok {k : Nat} {p : Int} (o : Op) : run pg fns (k + 2) 6 [.t (.int p), .t (rT (some o.row))] [] = .ok (.t (goalsT p o)) [] := by
  rw [run_at fn_goals]
  cases o <;> simp [fnV, evB, evS_asg, evS_fld, evS_sub, evS_expr, evS_retN, evS_ret, evS_ite, evE, evEs, evT, evAnd, evOr, evO, evC, evSr, Res.bind, okIf, idxV, sqOf, cmpV, cmpN, cmpI, truV, binV, asg, asgs, subV, mkL, mkLn, frzL, frzT, allT, isNB, at0, at1, at2, at3, L2.ixN, biV, eq_int, eq_str, line, lsOf_tl, tpOf_tl, scOf_tl, snap_t, allT_il, tl_fold, tl0, tl1, tl2, il0, il1, il2, il_len, lsO_non, tpO_non, scO_non, lsO_bl, tpO_bl, scO_bl, lsO_int, tpO_int, scO_int, lsO_str, tpO_str, scO_str, lsO_tup, tpO_tup, scO_tup, lsO_lst, tpO_lst, scO_lst, lsO_scr, tpO_scr, scO_scr, lsO_ref, tpO_ref, scO_ref, lsO_Dt, tpO_Dt, scO_Dt, lsO_Dl, tpO_Dl, scO_Dl, objOf, attrV, fldV, setO, putD, methB, meV, isLst, callV, pickV, inV2, scV, mapO, L2.inV, L2.eqV, List.lookup, beq_ofString, ofString_inj, line, f_goals_of, rT, Op.row, goalsT, signed_ok, -ge_iff_le]

theorem il_snoc (l : List Int) (x : Int) : il l ++ [.t (.int x)] = il (l ++ [x]) := by simp [il]
theorem il_drop (l : List Int) : (il l).dropLast = il l.dropLast := by simp [il, List.map_dropLast]
theorem mapO_il (M : Ar) (n : Nat) : ∀ l : List Int, mapO (snap M n) (il l) = some (l.map T.int)
  | [] => rfl
  | a :: l => by
    have e : il (a :: l) = .t (.int a) :: il l := rfl
    rw [e]
    simp [mapO, snap_t, mapO_il M n l]
theorem eq_ref {M : Ar} {i : Nat} {l m : List Int} {k : Bool → Bool} (h : M[i]? = some (.lst (il l))) : eqV2 M (.ref i) (.t (tl m)) k = .ok (.t (.bl (k (decide (l = m))))) M := by
  have e : snap M deep (.ref i) = some (tl l) := by
    show (match M[i]? with | some (.lst l) => (mapO (snap M 5) l).map T.lst | _ => none) = _
    rw [h]
    show (mapO (snap M 5) (il l)).map T.lst = _
    rw [mapO_il]; rfl
  have e2 := eq_tl M l m k
  unfold eqV2 at e2 ⊢
  rw [snap_t] at e2
  rw [e]
  exact e2
variable {k : Nat} {ws : List Int} {s : Mc}
theorem down_ok {g b : Int} (ok : s.ok) : run pg fns (k + 1) 10 [.ref 0, .t (.int g), .t (.int b)] (MA ws s) = .ok (.t .non) (MA ws (if s.calls.length = 16 then { s with why := "deep" } else { s with calls := s.calls ++ [b], place := g })) := by
  rw [run_at fn_down]
  have hl : s.calls.length < 16777216 := by have := ok.l; omega
  by_cases h : s.calls.length = 16
  · have h' : (s.calls.length : Int) = 16 := by omega
    rw [if_pos h]
    simp [fnV, evB, evS_asg, evS_fld, evS_sub, evS_expr, evS_retN, evS_ret, evS_ite, evE, evEs, evT, evAnd, evOr, evO, evC, evSr, Res.bind, okIf, idxV, sqOf, cmpV, cmpN, cmpI, truV, binV, asg, asgs, subV, mkL, mkLn, frzL, frzT, allT, isNB, at0, at1, at2, at3, L2.ixN, biV, eq_int, eq_str, line, lsOf_tl, tpOf_tl, scOf_tl, snap_t, allT_il, tl_fold, tl0, tl1, tl2, il0, il1, il2, il_len, lsO_non, tpO_non, scO_non, lsO_bl, tpO_bl, scO_bl, lsO_int, tpO_int, scO_int, lsO_str, tpO_str, scO_str, lsO_tup, tpO_tup, scO_tup, lsO_lst, tpO_lst, scO_lst, lsO_scr, tpO_scr, scO_scr, lsO_ref, tpO_ref, scO_ref, lsO_Dt, tpO_Dt, scO_Dt, lsO_Dl, tpO_Dl, scO_Dl, objOf, attrV, fldV, setO, putD, methB, meV, isLst, callV, pickV, inV2, scV, mapO, L2.inV, L2.eqV, List.lookup, beq_ofString, ofString_inj, line, f_Machine_go_down, MA, gl5, h', hl]
  · have h' : ¬ (s.calls.length : Int) = 16 := by omega
    rw [if_neg h]
    simp [fnV, evB, evS_asg, evS_fld, evS_sub, evS_expr, evS_retN, evS_ret, evS_ite, evE, evEs, evT, evAnd, evOr, evO, evC, evSr, Res.bind, okIf, idxV, sqOf, cmpV, cmpN, cmpI, truV, binV, asg, asgs, subV, mkL, mkLn, frzL, frzT, allT, isNB, at0, at1, at2, at3, L2.ixN, biV, eq_int, eq_str, line, lsOf_tl, tpOf_tl, scOf_tl, snap_t, allT_il, tl_fold, tl0, tl1, tl2, il0, il1, il2, il_len, lsO_non, tpO_non, scO_non, lsO_bl, tpO_bl, scO_bl, lsO_int, tpO_int, scO_int, lsO_str, tpO_str, scO_str, lsO_tup, tpO_tup, scO_tup, lsO_lst, tpO_lst, scO_lst, lsO_scr, tpO_scr, scO_scr, lsO_ref, tpO_ref, scO_ref, lsO_Dt, tpO_Dt, scO_Dt, lsO_Dl, tpO_Dl, scO_Dl, objOf, attrV, fldV, setO, putD, methB, meV, isLst, callV, pickV, inV2, scV, mapO, L2.inV, L2.eqV, List.lookup, beq_ofString, ofString_inj, line, f_Machine_go_down, MA, gl5, h', hl, il_snoc]
theorem back_ok : run pg fns (k + 1) 11 [.ref 0] (MA ws s) = .ok (.t .non) (MA ws (if s.calls = [] then { s with why := "back" } else { s with place := s.calls.getLastD 0, calls := s.calls.dropLast })) := by
  rw [run_at fn_back]
  have hq : eqV2 (MA ws s) (.ref 3) (.t (.lst [])) id = .ok (.t (.bl (decide (s.calls = [])))) (MA ws s) := eq_ref (m := []) (k := id) rfl
  by_cases h : s.calls = []
  · rw [if_pos h]
    rw [decide_eq_true h] at hq
    simp only [MA] at hq ⊢
    simp [fnV, evB, evS_asg, evS_fld, evS_sub, evS_expr, evS_retN, evS_ret, evS_ite, evE, evEs, evT, evAnd, evOr, evO, evC, evSr, Res.bind, okIf, idxV, sqOf, cmpV, cmpN, cmpI, truV, binV, asg, asgs, subV, mkL, mkLn, frzL, frzT, allT, isNB, at0, at1, at2, at3, L2.ixN, biV, eq_int, eq_str, line, lsOf_tl, tpOf_tl, scOf_tl, snap_t, allT_il, tl_fold, tl0, tl1, tl2, il0, il1, il2, il_len, lsO_non, tpO_non, scO_non, lsO_bl, tpO_bl, scO_bl, lsO_int, tpO_int, scO_int, lsO_str, tpO_str, scO_str, lsO_tup, tpO_tup, scO_tup, lsO_lst, tpO_lst, scO_lst, lsO_scr, tpO_scr, scO_scr, lsO_ref, tpO_ref, scO_ref, lsO_Dt, tpO_Dt, scO_Dt, lsO_Dl, tpO_Dl, scO_Dl, objOf, attrV, fldV, setO, putD, methB, meV, isLst, callV, pickV, inV2, scV, mapO, L2.inV, L2.eqV, List.lookup, beq_ofString, ofString_inj, line, f_Machine_come_back, hq]
  · rw [if_neg h]
    rw [decide_eq_false h] at hq
    have hg : (il s.calls)[s.calls.length - 1]? = some (.t (.int (s.calls.getLastD 0))) := by
      rw [il_get]
      have hl : s.calls.length - 1 < s.calls.length := by have := List.length_pos_iff.mpr h; omega
      rw [List.getElem?_eq_getElem hl]
      show some (D.t (.int _)) = _
      congr 3
      rw [List.getLastD_eq_getLast?, List.getLast?_eq_getElem?, List.getElem?_eq_getElem hl]
      rfl
    simp only [MA] at hq ⊢
    simp [fnV, evB, evS_asg, evS_fld, evS_sub, evS_expr, evS_retN, evS_ret, evS_ite, evE, evEs, evT, evAnd, evOr, evO, evC, evSr, Res.bind, okIf, idxV, sqOf, cmpV, cmpN, cmpI, truV, binV, asg, asgs, subV, mkL, mkLn, frzL, frzT, allT, isNB, at0, at1, at2, at3, L2.ixN, biV, eq_int, eq_str, line, lsOf_tl, tpOf_tl, scOf_tl, snap_t, allT_il, tl_fold, tl0, tl1, tl2, il0, il1, il2, il_len, lsO_non, tpO_non, scO_non, lsO_bl, tpO_bl, scO_bl, lsO_int, tpO_int, scO_int, lsO_str, tpO_str, scO_str, lsO_tup, tpO_tup, scO_tup, lsO_lst, tpO_lst, scO_lst, lsO_scr, tpO_scr, scO_scr, lsO_ref, tpO_ref, scO_ref, lsO_Dt, tpO_Dt, scO_Dt, lsO_Dl, tpO_Dl, scO_Dl, objOf, attrV, fldV, setO, putD, methB, meV, isLst, callV, pickV, inV2, scV, mapO, L2.inV, L2.eqV, List.lookup, beq_ofString, ofString_inj, line, f_Machine_come_back, hq, hg, il_drop, -List.getLastD_eq_getLast?]

def rkF (s : Mc) : Op → Mc
  | .take b n => { s with boxes := s.boxes.set b.toNat n }
  | .takeB b n => { s with boxes := s.boxes.set b.toNat n }
  | .say b => { s with says := s.says ++ [at_ s.boxes b] }
  | .move b c => { s with boxes := s.boxes.set b.toNat (at_ s.boxes c % 256) }
  | .add b c => { s with boxes := s.boxes.set b.toNat ((at_ s.boxes b + at_ s.boxes c) % 256) }
  | .less b c => { s with boxes := s.boxes.set b.toNat ((at_ s.boxes b - at_ s.boxes c) % 256) }
  | .load b n => { s with boxes := s.boxes.set b.toNat (at_ s.cells n) }
  | .store b n => { s with cells := s.cells.set n.toNat (at_ s.boxes b) }
  | .copy n m => { s with cells := s.cells.set m.toNat (at_ s.cells n) }
  | _ => s
def Op.rk : Op → Bool
  | .stop => false
  | .back => false
  | .jump _ => false
  | .call _ => false
  | .skip _ => false
  | .zero _ _ => false
  | .same _ _ _ => false
  | _ => true
theorem bo_il {l : List Int} {b : Int} (hl : l.length = 4) (h : bo b) : L2.atI (il l) b = some (.t (.int (at_ l b))) := at_il hl h.1 h.2
theorem no_il {l : List Int} {b : Int} (hl : l.length = 256) (h : no b) : L2.atI (il l) b = some (.t (.int (at_ l b))) := at_il hl h.1 h.2
theorem bo_ix {b : Int} (h : bo b) : L2.ixN 4 b = some b.toNat := ixN_pos h.1 h.2
theorem no_ix {b : Int} (h : no b) : L2.ixN 256 b = some b.toNat := ixN_pos h.1 h.2
theorem reckon_ok (o : Op) (hr : o.rk = true) (hg : o.good) (ok : s.ok) : run pg fns (k + 1) 12 [.ref 0, .t (.str (Str.ofString o.row.1)), .t (tl o.row.2.1), .t (tl o.row.2.2.1)] (MA ws s) = .ok (.t .non) (MA ws (rkF s o)) := by
  rw [run_at fn_reckon]
  have hc := ok.c
  have hb := ok.b
  have hy : s.says.length < 16777216 := by have := ok.y; omega
  cases o with
  | take b n => simp [fnV, evB, evS_asg, evS_fld, evS_sub, evS_expr, evS_retN, evS_ret, evS_ite, evE, evEs, evT, evAnd, evOr, evO, evC, evSr, Res.bind, okIf, idxV, sqOf, cmpV, cmpN, cmpI, truV, binV, asg, asgs, subV, mkL, mkLn, frzL, frzT, allT, isNB, at0, at1, at2, at3, L2.ixN, biV, eq_int, eq_str, line, lsOf_tl, tpOf_tl, scOf_tl, snap_t, allT_il, tl_fold, tl0, tl1, tl2, il0, il1, il2, il_len, lsO_non, tpO_non, scO_non, lsO_bl, tpO_bl, scO_bl, lsO_int, tpO_int, scO_int, lsO_str, tpO_str, scO_str, lsO_tup, tpO_tup, scO_tup, lsO_lst, tpO_lst, scO_lst, lsO_scr, tpO_scr, scO_scr, lsO_ref, tpO_ref, scO_ref, lsO_Dt, tpO_Dt, scO_Dt, lsO_Dl, tpO_Dl, scO_Dl, objOf, attrV, fldV, setO, putD, methB, meV, isLst, callV, pickV, inV2, scV, mapO, L2.inV, L2.eqV, List.lookup, beq_ofString, ofString_inj, line, f_Machine_reckon, MA, Op.row, rkF, gl0, hb, bo_il hb hg.1, bo_ix hg.1, il_set, -L2.ixN]
  | takeB b n => simp [fnV, evB, evS_asg, evS_fld, evS_sub, evS_expr, evS_retN, evS_ret, evS_ite, evE, evEs, evT, evAnd, evOr, evO, evC, evSr, Res.bind, okIf, idxV, sqOf, cmpV, cmpN, cmpI, truV, binV, asg, asgs, subV, mkL, mkLn, frzL, frzT, allT, isNB, at0, at1, at2, at3, L2.ixN, biV, eq_int, eq_str, line, lsOf_tl, tpOf_tl, scOf_tl, snap_t, allT_il, tl_fold, tl0, tl1, tl2, il0, il1, il2, il_len, lsO_non, tpO_non, scO_non, lsO_bl, tpO_bl, scO_bl, lsO_int, tpO_int, scO_int, lsO_str, tpO_str, scO_str, lsO_tup, tpO_tup, scO_tup, lsO_lst, tpO_lst, scO_lst, lsO_scr, tpO_scr, scO_scr, lsO_ref, tpO_ref, scO_ref, lsO_Dt, tpO_Dt, scO_Dt, lsO_Dl, tpO_Dl, scO_Dl, objOf, attrV, fldV, setO, putD, methB, meV, isLst, callV, pickV, inV2, scV, mapO, L2.inV, L2.eqV, List.lookup, beq_ofString, ofString_inj, line, f_Machine_reckon, MA, Op.row, rkF, gl0, hb, bo_il hb hg.1, bo_ix hg.1, il_set, -L2.ixN]
  | say b => simp [fnV, evB, evS_asg, evS_fld, evS_sub, evS_expr, evS_retN, evS_ret, evS_ite, evE, evEs, evT, evAnd, evOr, evO, evC, evSr, Res.bind, okIf, idxV, sqOf, cmpV, cmpN, cmpI, truV, binV, asg, asgs, subV, mkL, mkLn, frzL, frzT, allT, isNB, at0, at1, at2, at3, L2.ixN, biV, eq_int, eq_str, line, lsOf_tl, tpOf_tl, scOf_tl, snap_t, allT_il, tl_fold, tl0, tl1, tl2, il0, il1, il2, il_len, lsO_non, tpO_non, scO_non, lsO_bl, tpO_bl, scO_bl, lsO_int, tpO_int, scO_int, lsO_str, tpO_str, scO_str, lsO_tup, tpO_tup, scO_tup, lsO_lst, tpO_lst, scO_lst, lsO_scr, tpO_scr, scO_scr, lsO_ref, tpO_ref, scO_ref, lsO_Dt, tpO_Dt, scO_Dt, lsO_Dl, tpO_Dl, scO_Dl, objOf, attrV, fldV, setO, putD, methB, meV, isLst, callV, pickV, inV2, scV, mapO, L2.inV, L2.eqV, List.lookup, beq_ofString, ofString_inj, line, f_Machine_reckon, MA, Op.row, rkF, gl0, hb, bo_il hb hg, il_snoc, hy]
  | move b c => simp [fnV, evB, evS_asg, evS_fld, evS_sub, evS_expr, evS_retN, evS_ret, evS_ite, evE, evEs, evT, evAnd, evOr, evO, evC, evSr, Res.bind, okIf, idxV, sqOf, cmpV, cmpN, cmpI, truV, binV, asg, asgs, subV, mkL, mkLn, frzL, frzT, allT, isNB, at0, at1, at2, at3, L2.ixN, biV, eq_int, eq_str, line, lsOf_tl, tpOf_tl, scOf_tl, snap_t, allT_il, tl_fold, tl0, tl1, tl2, il0, il1, il2, il_len, lsO_non, tpO_non, scO_non, lsO_bl, tpO_bl, scO_bl, lsO_int, tpO_int, scO_int, lsO_str, tpO_str, scO_str, lsO_tup, tpO_tup, scO_tup, lsO_lst, tpO_lst, scO_lst, lsO_scr, tpO_scr, scO_scr, lsO_ref, tpO_ref, scO_ref, lsO_Dt, tpO_Dt, scO_Dt, lsO_Dl, tpO_Dl, scO_Dl, objOf, attrV, fldV, setO, putD, methB, meV, isLst, callV, pickV, inV2, scV, mapO, L2.inV, L2.eqV, List.lookup, beq_ofString, ofString_inj, line, f_Machine_reckon, MA, Op.row, rkF, gl0, hb, bo_il hb hg.1, bo_il hb hg.2, bo_ix hg.1, il_set, -L2.ixN]
  | add b c => simp [fnV, evB, evS_asg, evS_fld, evS_sub, evS_expr, evS_retN, evS_ret, evS_ite, evE, evEs, evT, evAnd, evOr, evO, evC, evSr, Res.bind, okIf, idxV, sqOf, cmpV, cmpN, cmpI, truV, binV, asg, asgs, subV, mkL, mkLn, frzL, frzT, allT, isNB, at0, at1, at2, at3, L2.ixN, biV, eq_int, eq_str, line, lsOf_tl, tpOf_tl, scOf_tl, snap_t, allT_il, tl_fold, tl0, tl1, tl2, il0, il1, il2, il_len, lsO_non, tpO_non, scO_non, lsO_bl, tpO_bl, scO_bl, lsO_int, tpO_int, scO_int, lsO_str, tpO_str, scO_str, lsO_tup, tpO_tup, scO_tup, lsO_lst, tpO_lst, scO_lst, lsO_scr, tpO_scr, scO_scr, lsO_ref, tpO_ref, scO_ref, lsO_Dt, tpO_Dt, scO_Dt, lsO_Dl, tpO_Dl, scO_Dl, objOf, attrV, fldV, setO, putD, methB, meV, isLst, callV, pickV, inV2, scV, mapO, L2.inV, L2.eqV, List.lookup, beq_ofString, ofString_inj, line, f_Machine_reckon, MA, Op.row, rkF, gl0, hb, bo_il hb hg.1, bo_il hb hg.2, bo_ix hg.1, il_set, -L2.ixN]
  | less b c => simp [fnV, evB, evS_asg, evS_fld, evS_sub, evS_expr, evS_retN, evS_ret, evS_ite, evE, evEs, evT, evAnd, evOr, evO, evC, evSr, Res.bind, okIf, idxV, sqOf, cmpV, cmpN, cmpI, truV, binV, asg, asgs, subV, mkL, mkLn, frzL, frzT, allT, isNB, at0, at1, at2, at3, L2.ixN, biV, eq_int, eq_str, line, lsOf_tl, tpOf_tl, scOf_tl, snap_t, allT_il, tl_fold, tl0, tl1, tl2, il0, il1, il2, il_len, lsO_non, tpO_non, scO_non, lsO_bl, tpO_bl, scO_bl, lsO_int, tpO_int, scO_int, lsO_str, tpO_str, scO_str, lsO_tup, tpO_tup, scO_tup, lsO_lst, tpO_lst, scO_lst, lsO_scr, tpO_scr, scO_scr, lsO_ref, tpO_ref, scO_ref, lsO_Dt, tpO_Dt, scO_Dt, lsO_Dl, tpO_Dl, scO_Dl, objOf, attrV, fldV, setO, putD, methB, meV, isLst, callV, pickV, inV2, scV, mapO, L2.inV, L2.eqV, List.lookup, beq_ofString, ofString_inj, line, f_Machine_reckon, MA, Op.row, rkF, gl0, hb, bo_il hb hg.1, bo_il hb hg.2, bo_ix hg.1, il_set, -L2.ixN]
  | load b n => simp [fnV, evB, evS_asg, evS_fld, evS_sub, evS_expr, evS_retN, evS_ret, evS_ite, evE, evEs, evT, evAnd, evOr, evO, evC, evSr, Res.bind, okIf, idxV, sqOf, cmpV, cmpN, cmpI, truV, binV, asg, asgs, subV, mkL, mkLn, frzL, frzT, allT, isNB, at0, at1, at2, at3, L2.ixN, biV, eq_int, eq_str, line, lsOf_tl, tpOf_tl, scOf_tl, snap_t, allT_il, tl_fold, tl0, tl1, tl2, il0, il1, il2, il_len, lsO_non, tpO_non, scO_non, lsO_bl, tpO_bl, scO_bl, lsO_int, tpO_int, scO_int, lsO_str, tpO_str, scO_str, lsO_tup, tpO_tup, scO_tup, lsO_lst, tpO_lst, scO_lst, lsO_scr, tpO_scr, scO_scr, lsO_ref, tpO_ref, scO_ref, lsO_Dt, tpO_Dt, scO_Dt, lsO_Dl, tpO_Dl, scO_Dl, objOf, attrV, fldV, setO, putD, methB, meV, isLst, callV, pickV, inV2, scV, mapO, L2.inV, L2.eqV, List.lookup, beq_ofString, ofString_inj, line, f_Machine_reckon, MA, Op.row, rkF, gl0, hb, hc, no_il hc hg.2, bo_ix hg.1, il_set, -L2.ixN]
  | store b n => simp [fnV, evB, evS_asg, evS_fld, evS_sub, evS_expr, evS_retN, evS_ret, evS_ite, evE, evEs, evT, evAnd, evOr, evO, evC, evSr, Res.bind, okIf, idxV, sqOf, cmpV, cmpN, cmpI, truV, binV, asg, asgs, subV, mkL, mkLn, frzL, frzT, allT, isNB, at0, at1, at2, at3, L2.ixN, biV, eq_int, eq_str, line, lsOf_tl, tpOf_tl, scOf_tl, snap_t, allT_il, tl_fold, tl0, tl1, tl2, il0, il1, il2, il_len, lsO_non, tpO_non, scO_non, lsO_bl, tpO_bl, scO_bl, lsO_int, tpO_int, scO_int, lsO_str, tpO_str, scO_str, lsO_tup, tpO_tup, scO_tup, lsO_lst, tpO_lst, scO_lst, lsO_scr, tpO_scr, scO_scr, lsO_ref, tpO_ref, scO_ref, lsO_Dt, tpO_Dt, scO_Dt, lsO_Dl, tpO_Dl, scO_Dl, objOf, attrV, fldV, setO, putD, methB, meV, isLst, callV, pickV, inV2, scV, mapO, L2.inV, L2.eqV, List.lookup, beq_ofString, ofString_inj, line, f_Machine_reckon, MA, Op.row, rkF, gl0, hb, hc, bo_il hb hg.1, no_ix hg.2, il_set, -L2.ixN]
  | copy n m => simp [fnV, evB, evS_asg, evS_fld, evS_sub, evS_expr, evS_retN, evS_ret, evS_ite, evE, evEs, evT, evAnd, evOr, evO, evC, evSr, Res.bind, okIf, idxV, sqOf, cmpV, cmpN, cmpI, truV, binV, asg, asgs, subV, mkL, mkLn, frzL, frzT, allT, isNB, at0, at1, at2, at3, L2.ixN, biV, eq_int, eq_str, line, lsOf_tl, tpOf_tl, scOf_tl, snap_t, allT_il, tl_fold, tl0, tl1, tl2, il0, il1, il2, il_len, lsO_non, tpO_non, scO_non, lsO_bl, tpO_bl, scO_bl, lsO_int, tpO_int, scO_int, lsO_str, tpO_str, scO_str, lsO_tup, tpO_tup, scO_tup, lsO_lst, tpO_lst, scO_lst, lsO_scr, tpO_scr, scO_scr, lsO_ref, tpO_ref, scO_ref, lsO_Dt, tpO_Dt, scO_Dt, lsO_Dl, tpO_Dl, scO_Dl, objOf, attrV, fldV, setO, putD, methB, meV, isLst, callV, pickV, inV2, scV, mapO, L2.inV, L2.eqV, List.lookup, beq_ofString, ofString_inj, line, f_Machine_reckon, MA, Op.row, rkF, gl0, hb, hc, no_il hc hg.1, no_ix hg.2, il_set, -L2.ixN]
  | _ => cases hr
end Rw.K02
end

section
set_option Elab.async false
set_option linter.all false
set_option maxRecDepth 100000
set_option maxHeartbeats 0
/-! k02: a step of the program's machine -/
namespace Rw.K02
open PySem
variable {k : Nat} {ws : List Int} {s : Mc}
theorem rT_row (o : Op) : rT (some o.row) = .tup [.str (Str.ofString o.row.1), tl o.row.2.1, tl o.row.2.2.1, .int o.row.2.2.2] := by cases o <;> rfl
theorem do_ok (o : Op) (hg : o.good) (ok : s.ok) : run pg fns (k + 3) 9 [.ref 0, .t (rT (some o.row))] (MA ws s) = .ok (.t .non) (MA ws (o.do s)) := by
  rw [run_at fn_do]
  have hb := ok.b
  have hgo := goals_ok (k := k) (p := s.place) o
  have hrk := fun hr => reckon_ok (k := k + 1) (ws := ws) o hr hg ok
  cases o with
  | jump n =>
    simp only [MA] at hrk ⊢
    simp [Op.row, rT, goalsT, fnV, evB, evS_asg, evS_fld, evS_sub, evS_expr, evS_retN, evS_ret, evS_ite, evE, evEs, evT, evAnd, evOr, evO, evC, evSr, Res.bind, okIf, idxV, sqOf, cmpV, cmpN, cmpI, truV, binV, asg, asgs, subV, mkL, mkLn, frzL, frzT, allT, isNB, at0, at1, at2, at3, L2.ixN, biV, eq_int, eq_str, line, lsOf_tl, tpOf_tl, scOf_tl, snap_t, allT_il, tl_fold, tl0, tl1, tl2, il0, il1, il2, il_len, lsO_non, tpO_non, scO_non, lsO_bl, tpO_bl, scO_bl, lsO_int, tpO_int, scO_int, lsO_str, tpO_str, scO_str, lsO_tup, tpO_tup, scO_tup, lsO_lst, tpO_lst, scO_lst, lsO_scr, tpO_scr, scO_scr, lsO_ref, tpO_ref, scO_ref, lsO_Dt, tpO_Dt, scO_Dt, lsO_Dl, tpO_Dl, scO_Dl] at hgo
    simp [fnV, evB, evS_asg, evS_fld, evS_sub, evS_expr, evS_retN, evS_ret, evS_ite, evE, evEs, evT, evAnd, evOr, evO, evC, evSr, Res.bind, okIf, idxV, sqOf, cmpV, cmpN, cmpI, truV, binV, asg, asgs, subV, mkL, mkLn, frzL, frzT, allT, isNB, at0, at1, at2, at3, L2.ixN, biV, eq_int, eq_str, line, lsOf_tl, tpOf_tl, scOf_tl, snap_t, allT_il, tl_fold, tl0, tl1, tl2, il0, il1, il2, il_len, lsO_non, tpO_non, scO_non, lsO_bl, tpO_bl, scO_bl, lsO_int, tpO_int, scO_int, lsO_str, tpO_str, scO_str, lsO_tup, tpO_tup, scO_tup, lsO_lst, tpO_lst, scO_lst, lsO_scr, tpO_scr, scO_scr, lsO_ref, tpO_ref, scO_ref, lsO_Dt, tpO_Dt, scO_Dt, lsO_Dl, tpO_Dl, scO_Dl, objOf, attrV, fldV, setO, putD, methB, meV, isLst, callV, pickV, inV2, scV, mapO, L2.inV, L2.eqV, List.lookup, beq_ofString, ofString_inj, line, f_Machine_do, Op.row, rT, hgo, Op.do]
  | skip n =>
    simp only [MA] at hrk ⊢
    simp [Op.row, rT, goalsT, fnV, evB, evS_asg, evS_fld, evS_sub, evS_expr, evS_retN, evS_ret, evS_ite, evE, evEs, evT, evAnd, evOr, evO, evC, evSr, Res.bind, okIf, idxV, sqOf, cmpV, cmpN, cmpI, truV, binV, asg, asgs, subV, mkL, mkLn, frzL, frzT, allT, isNB, at0, at1, at2, at3, L2.ixN, biV, eq_int, eq_str, line, lsOf_tl, tpOf_tl, scOf_tl, snap_t, allT_il, tl_fold, tl0, tl1, tl2, il0, il1, il2, il_len, lsO_non, tpO_non, scO_non, lsO_bl, tpO_bl, scO_bl, lsO_int, tpO_int, scO_int, lsO_str, tpO_str, scO_str, lsO_tup, tpO_tup, scO_tup, lsO_lst, tpO_lst, scO_lst, lsO_scr, tpO_scr, scO_scr, lsO_ref, tpO_ref, scO_ref, lsO_Dt, tpO_Dt, scO_Dt, lsO_Dl, tpO_Dl, scO_Dl] at hgo
    simp [fnV, evB, evS_asg, evS_fld, evS_sub, evS_expr, evS_retN, evS_ret, evS_ite, evE, evEs, evT, evAnd, evOr, evO, evC, evSr, Res.bind, okIf, idxV, sqOf, cmpV, cmpN, cmpI, truV, binV, asg, asgs, subV, mkL, mkLn, frzL, frzT, allT, isNB, at0, at1, at2, at3, L2.ixN, biV, eq_int, eq_str, line, lsOf_tl, tpOf_tl, scOf_tl, snap_t, allT_il, tl_fold, tl0, tl1, tl2, il0, il1, il2, il_len, lsO_non, tpO_non, scO_non, lsO_bl, tpO_bl, scO_bl, lsO_int, tpO_int, scO_int, lsO_str, tpO_str, scO_str, lsO_tup, tpO_tup, scO_tup, lsO_lst, tpO_lst, scO_lst, lsO_scr, tpO_scr, scO_scr, lsO_ref, tpO_ref, scO_ref, lsO_Dt, tpO_Dt, scO_Dt, lsO_Dl, tpO_Dl, scO_Dl, objOf, attrV, fldV, setO, putD, methB, meV, isLst, callV, pickV, inV2, scV, mapO, L2.inV, L2.eqV, List.lookup, beq_ofString, ofString_inj, line, f_Machine_do, Op.row, rT, hgo, Op.do]
  | zero b n =>
    by_cases h : at_ s.boxes b = 0
    · simp only [MA] at hrk ⊢
      simp [Op.row, rT, goalsT, fnV, evB, evS_asg, evS_fld, evS_sub, evS_expr, evS_retN, evS_ret, evS_ite, evE, evEs, evT, evAnd, evOr, evO, evC, evSr, Res.bind, okIf, idxV, sqOf, cmpV, cmpN, cmpI, truV, binV, asg, asgs, subV, mkL, mkLn, frzL, frzT, allT, isNB, at0, at1, at2, at3, L2.ixN, biV, eq_int, eq_str, line, lsOf_tl, tpOf_tl, scOf_tl, snap_t, allT_il, tl_fold, tl0, tl1, tl2, il0, il1, il2, il_len, lsO_non, tpO_non, scO_non, lsO_bl, tpO_bl, scO_bl, lsO_int, tpO_int, scO_int, lsO_str, tpO_str, scO_str, lsO_tup, tpO_tup, scO_tup, lsO_lst, tpO_lst, scO_lst, lsO_scr, tpO_scr, scO_scr, lsO_ref, tpO_ref, scO_ref, lsO_Dt, tpO_Dt, scO_Dt, lsO_Dl, tpO_Dl, scO_Dl] at hgo
      simp [fnV, evB, evS_asg, evS_fld, evS_sub, evS_expr, evS_retN, evS_ret, evS_ite, evE, evEs, evT, evAnd, evOr, evO, evC, evSr, Res.bind, okIf, idxV, sqOf, cmpV, cmpN, cmpI, truV, binV, asg, asgs, subV, mkL, mkLn, frzL, frzT, allT, isNB, at0, at1, at2, at3, L2.ixN, biV, eq_int, eq_str, line, lsOf_tl, tpOf_tl, scOf_tl, snap_t, allT_il, tl_fold, tl0, tl1, tl2, il0, il1, il2, il_len, lsO_non, tpO_non, scO_non, lsO_bl, tpO_bl, scO_bl, lsO_int, tpO_int, scO_int, lsO_str, tpO_str, scO_str, lsO_tup, tpO_tup, scO_tup, lsO_lst, tpO_lst, scO_lst, lsO_scr, tpO_scr, scO_scr, lsO_ref, tpO_ref, scO_ref, lsO_Dt, tpO_Dt, scO_Dt, lsO_Dl, tpO_Dl, scO_Dl, objOf, attrV, fldV, setO, putD, methB, meV, isLst, callV, pickV, inV2, scV, mapO, L2.inV, L2.eqV, List.lookup, beq_ofString, ofString_inj, line, f_Machine_do, Op.row, rT, hgo, Op.do, bo_il hb hg.1, h]
    · simp only [MA] at hrk ⊢
      simp [Op.row, rT, goalsT, fnV, evB, evS_asg, evS_fld, evS_sub, evS_expr, evS_retN, evS_ret, evS_ite, evE, evEs, evT, evAnd, evOr, evO, evC, evSr, Res.bind, okIf, idxV, sqOf, cmpV, cmpN, cmpI, truV, binV, asg, asgs, subV, mkL, mkLn, frzL, frzT, allT, isNB, at0, at1, at2, at3, L2.ixN, biV, eq_int, eq_str, line, lsOf_tl, tpOf_tl, scOf_tl, snap_t, allT_il, tl_fold, tl0, tl1, tl2, il0, il1, il2, il_len, lsO_non, tpO_non, scO_non, lsO_bl, tpO_bl, scO_bl, lsO_int, tpO_int, scO_int, lsO_str, tpO_str, scO_str, lsO_tup, tpO_tup, scO_tup, lsO_lst, tpO_lst, scO_lst, lsO_scr, tpO_scr, scO_scr, lsO_ref, tpO_ref, scO_ref, lsO_Dt, tpO_Dt, scO_Dt, lsO_Dl, tpO_Dl, scO_Dl] at hgo
      simp [fnV, evB, evS_asg, evS_fld, evS_sub, evS_expr, evS_retN, evS_ret, evS_ite, evE, evEs, evT, evAnd, evOr, evO, evC, evSr, Res.bind, okIf, idxV, sqOf, cmpV, cmpN, cmpI, truV, binV, asg, asgs, subV, mkL, mkLn, frzL, frzT, allT, isNB, at0, at1, at2, at3, L2.ixN, biV, eq_int, eq_str, line, lsOf_tl, tpOf_tl, scOf_tl, snap_t, allT_il, tl_fold, tl0, tl1, tl2, il0, il1, il2, il_len, lsO_non, tpO_non, scO_non, lsO_bl, tpO_bl, scO_bl, lsO_int, tpO_int, scO_int, lsO_str, tpO_str, scO_str, lsO_tup, tpO_tup, scO_tup, lsO_lst, tpO_lst, scO_lst, lsO_scr, tpO_scr, scO_scr, lsO_ref, tpO_ref, scO_ref, lsO_Dt, tpO_Dt, scO_Dt, lsO_Dl, tpO_Dl, scO_Dl, objOf, attrV, fldV, setO, putD, methB, meV, isLst, callV, pickV, inV2, scV, mapO, L2.inV, L2.eqV, List.lookup, beq_ofString, ofString_inj, line, f_Machine_do, Op.row, rT, hgo, Op.do, bo_il hb hg.1, h]
  | same b c n =>
    by_cases h : at_ s.boxes b = at_ s.boxes c
    · simp only [MA] at hrk ⊢
      simp [Op.row, rT, goalsT, fnV, evB, evS_asg, evS_fld, evS_sub, evS_expr, evS_retN, evS_ret, evS_ite, evE, evEs, evT, evAnd, evOr, evO, evC, evSr, Res.bind, okIf, idxV, sqOf, cmpV, cmpN, cmpI, truV, binV, asg, asgs, subV, mkL, mkLn, frzL, frzT, allT, isNB, at0, at1, at2, at3, L2.ixN, biV, eq_int, eq_str, line, lsOf_tl, tpOf_tl, scOf_tl, snap_t, allT_il, tl_fold, tl0, tl1, tl2, il0, il1, il2, il_len, lsO_non, tpO_non, scO_non, lsO_bl, tpO_bl, scO_bl, lsO_int, tpO_int, scO_int, lsO_str, tpO_str, scO_str, lsO_tup, tpO_tup, scO_tup, lsO_lst, tpO_lst, scO_lst, lsO_scr, tpO_scr, scO_scr, lsO_ref, tpO_ref, scO_ref, lsO_Dt, tpO_Dt, scO_Dt, lsO_Dl, tpO_Dl, scO_Dl] at hgo
      simp [fnV, evB, evS_asg, evS_fld, evS_sub, evS_expr, evS_retN, evS_ret, evS_ite, evE, evEs, evT, evAnd, evOr, evO, evC, evSr, Res.bind, okIf, idxV, sqOf, cmpV, cmpN, cmpI, truV, binV, asg, asgs, subV, mkL, mkLn, frzL, frzT, allT, isNB, at0, at1, at2, at3, L2.ixN, biV, eq_int, eq_str, line, lsOf_tl, tpOf_tl, scOf_tl, snap_t, allT_il, tl_fold, tl0, tl1, tl2, il0, il1, il2, il_len, lsO_non, tpO_non, scO_non, lsO_bl, tpO_bl, scO_bl, lsO_int, tpO_int, scO_int, lsO_str, tpO_str, scO_str, lsO_tup, tpO_tup, scO_tup, lsO_lst, tpO_lst, scO_lst, lsO_scr, tpO_scr, scO_scr, lsO_ref, tpO_ref, scO_ref, lsO_Dt, tpO_Dt, scO_Dt, lsO_Dl, tpO_Dl, scO_Dl, objOf, attrV, fldV, setO, putD, methB, meV, isLst, callV, pickV, inV2, scV, mapO, L2.inV, L2.eqV, List.lookup, beq_ofString, ofString_inj, line, f_Machine_do, Op.row, rT, hgo, Op.do, bo_il hb hg.1, bo_il hb hg.2.1, h]
    · simp only [MA] at hrk ⊢
      simp [Op.row, rT, goalsT, fnV, evB, evS_asg, evS_fld, evS_sub, evS_expr, evS_retN, evS_ret, evS_ite, evE, evEs, evT, evAnd, evOr, evO, evC, evSr, Res.bind, okIf, idxV, sqOf, cmpV, cmpN, cmpI, truV, binV, asg, asgs, subV, mkL, mkLn, frzL, frzT, allT, isNB, at0, at1, at2, at3, L2.ixN, biV, eq_int, eq_str, line, lsOf_tl, tpOf_tl, scOf_tl, snap_t, allT_il, tl_fold, tl0, tl1, tl2, il0, il1, il2, il_len, lsO_non, tpO_non, scO_non, lsO_bl, tpO_bl, scO_bl, lsO_int, tpO_int, scO_int, lsO_str, tpO_str, scO_str, lsO_tup, tpO_tup, scO_tup, lsO_lst, tpO_lst, scO_lst, lsO_scr, tpO_scr, scO_scr, lsO_ref, tpO_ref, scO_ref, lsO_Dt, tpO_Dt, scO_Dt, lsO_Dl, tpO_Dl, scO_Dl] at hgo
      simp [fnV, evB, evS_asg, evS_fld, evS_sub, evS_expr, evS_retN, evS_ret, evS_ite, evE, evEs, evT, evAnd, evOr, evO, evC, evSr, Res.bind, okIf, idxV, sqOf, cmpV, cmpN, cmpI, truV, binV, asg, asgs, subV, mkL, mkLn, frzL, frzT, allT, isNB, at0, at1, at2, at3, L2.ixN, biV, eq_int, eq_str, line, lsOf_tl, tpOf_tl, scOf_tl, snap_t, allT_il, tl_fold, tl0, tl1, tl2, il0, il1, il2, il_len, lsO_non, tpO_non, scO_non, lsO_bl, tpO_bl, scO_bl, lsO_int, tpO_int, scO_int, lsO_str, tpO_str, scO_str, lsO_tup, tpO_tup, scO_tup, lsO_lst, tpO_lst, scO_lst, lsO_scr, tpO_scr, scO_scr, lsO_ref, tpO_ref, scO_ref, lsO_Dt, tpO_Dt, scO_Dt, lsO_Dl, tpO_Dl, scO_Dl, objOf, attrV, fldV, setO, putD, methB, meV, isLst, callV, pickV, inV2, scV, mapO, L2.inV, L2.eqV, List.lookup, beq_ofString, ofString_inj, line, f_Machine_do, Op.row, rT, hgo, Op.do, bo_il hb hg.1, bo_il hb hg.2.1, h]
  | call n =>
    have hd := down_ok (k := k + 1) (ws := ws) (g := n) (b := s.place + 2) ok
    simp only [MA] at hd ⊢
    simp [Op.row, rT, goalsT, fnV, evB, evS_asg, evS_fld, evS_sub, evS_expr, evS_retN, evS_ret, evS_ite, evE, evEs, evT, evAnd, evOr, evO, evC, evSr, Res.bind, okIf, idxV, sqOf, cmpV, cmpN, cmpI, truV, binV, asg, asgs, subV, mkL, mkLn, frzL, frzT, allT, isNB, at0, at1, at2, at3, L2.ixN, biV, eq_int, eq_str, line, lsOf_tl, tpOf_tl, scOf_tl, snap_t, allT_il, tl_fold, tl0, tl1, tl2, il0, il1, il2, il_len, lsO_non, tpO_non, scO_non, lsO_bl, tpO_bl, scO_bl, lsO_int, tpO_int, scO_int, lsO_str, tpO_str, scO_str, lsO_tup, tpO_tup, scO_tup, lsO_lst, tpO_lst, scO_lst, lsO_scr, tpO_scr, scO_scr, lsO_ref, tpO_ref, scO_ref, lsO_Dt, tpO_Dt, scO_Dt, lsO_Dl, tpO_Dl, scO_Dl] at hgo
    simp [fnV, evB, evS_asg, evS_fld, evS_sub, evS_expr, evS_retN, evS_ret, evS_ite, evE, evEs, evT, evAnd, evOr, evO, evC, evSr, Res.bind, okIf, idxV, sqOf, cmpV, cmpN, cmpI, truV, binV, asg, asgs, subV, mkL, mkLn, frzL, frzT, allT, isNB, at0, at1, at2, at3, L2.ixN, biV, eq_int, eq_str, line, lsOf_tl, tpOf_tl, scOf_tl, snap_t, allT_il, tl_fold, tl0, tl1, tl2, il0, il1, il2, il_len, lsO_non, tpO_non, scO_non, lsO_bl, tpO_bl, scO_bl, lsO_int, tpO_int, scO_int, lsO_str, tpO_str, scO_str, lsO_tup, tpO_tup, scO_tup, lsO_lst, tpO_lst, scO_lst, lsO_scr, tpO_scr, scO_scr, lsO_ref, tpO_ref, scO_ref, lsO_Dt, tpO_Dt, scO_Dt, lsO_Dl, tpO_Dl, scO_Dl, objOf, attrV, fldV, setO, putD, methB, meV, isLst, callV, pickV, inV2, scV, mapO, L2.inV, L2.eqV, List.lookup, beq_ofString, ofString_inj, line, f_Machine_do, Op.row, rT, hgo, Op.do, hd]
  | back =>
    have hd := back_ok (k := k + 1) (ws := ws) (s := s)
    simp only [MA] at hd ⊢
    simp [Op.row, rT, goalsT, fnV, evB, evS_asg, evS_fld, evS_sub, evS_expr, evS_retN, evS_ret, evS_ite, evE, evEs, evT, evAnd, evOr, evO, evC, evSr, Res.bind, okIf, idxV, sqOf, cmpV, cmpN, cmpI, truV, binV, asg, asgs, subV, mkL, mkLn, frzL, frzT, allT, isNB, at0, at1, at2, at3, L2.ixN, biV, eq_int, eq_str, line, lsOf_tl, tpOf_tl, scOf_tl, snap_t, allT_il, tl_fold, tl0, tl1, tl2, il0, il1, il2, il_len, lsO_non, tpO_non, scO_non, lsO_bl, tpO_bl, scO_bl, lsO_int, tpO_int, scO_int, lsO_str, tpO_str, scO_str, lsO_tup, tpO_tup, scO_tup, lsO_lst, tpO_lst, scO_lst, lsO_scr, tpO_scr, scO_scr, lsO_ref, tpO_ref, scO_ref, lsO_Dt, tpO_Dt, scO_Dt, lsO_Dl, tpO_Dl, scO_Dl] at hgo
    simp [fnV, evB, evS_asg, evS_fld, evS_sub, evS_expr, evS_retN, evS_ret, evS_ite, evE, evEs, evT, evAnd, evOr, evO, evC, evSr, Res.bind, okIf, idxV, sqOf, cmpV, cmpN, cmpI, truV, binV, asg, asgs, subV, mkL, mkLn, frzL, frzT, allT, isNB, at0, at1, at2, at3, L2.ixN, biV, eq_int, eq_str, line, lsOf_tl, tpOf_tl, scOf_tl, snap_t, allT_il, tl_fold, tl0, tl1, tl2, il0, il1, il2, il_len, lsO_non, tpO_non, scO_non, lsO_bl, tpO_bl, scO_bl, lsO_int, tpO_int, scO_int, lsO_str, tpO_str, scO_str, lsO_tup, tpO_tup, scO_tup, lsO_lst, tpO_lst, scO_lst, lsO_scr, tpO_scr, scO_scr, lsO_ref, tpO_ref, scO_ref, lsO_Dt, tpO_Dt, scO_Dt, lsO_Dl, tpO_Dl, scO_Dl, objOf, attrV, fldV, setO, putD, methB, meV, isLst, callV, pickV, inV2, scV, mapO, L2.inV, L2.eqV, List.lookup, beq_ofString, ofString_inj, line, f_Machine_do, Op.row, rT, hgo, Op.do, hd, -List.getLastD_eq_getLast?]
  | stop =>
    simp only [MA] at hrk ⊢
    simp [Op.row, rT, goalsT, fnV, evB, evS_asg, evS_fld, evS_sub, evS_expr, evS_retN, evS_ret, evS_ite, evE, evEs, evT, evAnd, evOr, evO, evC, evSr, Res.bind, okIf, idxV, sqOf, cmpV, cmpN, cmpI, truV, binV, asg, asgs, subV, mkL, mkLn, frzL, frzT, allT, isNB, at0, at1, at2, at3, L2.ixN, biV, eq_int, eq_str, line, lsOf_tl, tpOf_tl, scOf_tl, snap_t, allT_il, tl_fold, tl0, tl1, tl2, il0, il1, il2, il_len, lsO_non, tpO_non, scO_non, lsO_bl, tpO_bl, scO_bl, lsO_int, tpO_int, scO_int, lsO_str, tpO_str, scO_str, lsO_tup, tpO_tup, scO_tup, lsO_lst, tpO_lst, scO_lst, lsO_scr, tpO_scr, scO_scr, lsO_ref, tpO_ref, scO_ref, lsO_Dt, tpO_Dt, scO_Dt, lsO_Dl, tpO_Dl, scO_Dl] at hgo
    simp [fnV, evB, evS_asg, evS_fld, evS_sub, evS_expr, evS_retN, evS_ret, evS_ite, evE, evEs, evT, evAnd, evOr, evO, evC, evSr, Res.bind, okIf, idxV, sqOf, cmpV, cmpN, cmpI, truV, binV, asg, asgs, subV, mkL, mkLn, frzL, frzT, allT, isNB, at0, at1, at2, at3, L2.ixN, biV, eq_int, eq_str, line, lsOf_tl, tpOf_tl, scOf_tl, snap_t, allT_il, tl_fold, tl0, tl1, tl2, il0, il1, il2, il_len, lsO_non, tpO_non, scO_non, lsO_bl, tpO_bl, scO_bl, lsO_int, tpO_int, scO_int, lsO_str, tpO_str, scO_str, lsO_tup, tpO_tup, scO_tup, lsO_lst, tpO_lst, scO_lst, lsO_scr, tpO_scr, scO_scr, lsO_ref, tpO_ref, scO_ref, lsO_Dt, tpO_Dt, scO_Dt, lsO_Dl, tpO_Dl, scO_Dl, objOf, attrV, fldV, setO, putD, methB, meV, isLst, callV, pickV, inV2, scV, mapO, L2.inV, L2.eqV, List.lookup, beq_ofString, ofString_inj, line, f_Machine_do, Op.row, rT, hgo, Op.do]
  | _ =>
    replace hrk := hrk rfl
    simp only [MA, Op.row, rkF] at hrk ⊢
    simp [Op.row, rT, goalsT, fnV, evB, evS_asg, evS_fld, evS_sub, evS_expr, evS_retN, evS_ret, evS_ite, evE, evEs, evT, evAnd, evOr, evO, evC, evSr, Res.bind, okIf, idxV, sqOf, cmpV, cmpN, cmpI, truV, binV, asg, asgs, subV, mkL, mkLn, frzL, frzT, allT, isNB, at0, at1, at2, at3, L2.ixN, biV, eq_int, eq_str, line, lsOf_tl, tpOf_tl, scOf_tl, snap_t, allT_il, tl_fold, tl0, tl1, tl2, il0, il1, il2, il_len, lsO_non, tpO_non, scO_non, lsO_bl, tpO_bl, scO_bl, lsO_int, tpO_int, scO_int, lsO_str, tpO_str, scO_str, lsO_tup, tpO_tup, scO_tup, lsO_lst, tpO_lst, scO_lst, lsO_scr, tpO_scr, scO_scr, lsO_ref, tpO_ref, scO_ref, lsO_Dt, tpO_Dt, scO_Dt, lsO_Dl, tpO_Dl, scO_Dl] at hgo hrk
    simp [fnV, evB, evS_asg, evS_fld, evS_sub, evS_expr, evS_retN, evS_ret, evS_ite, evE, evEs, evT, evAnd, evOr, evO, evC, evSr, Res.bind, okIf, idxV, sqOf, cmpV, cmpN, cmpI, truV, binV, asg, asgs, subV, mkL, mkLn, frzL, frzT, allT, isNB, at0, at1, at2, at3, L2.ixN, biV, eq_int, eq_str, line, lsOf_tl, tpOf_tl, scOf_tl, snap_t, allT_il, tl_fold, tl0, tl1, tl2, il0, il1, il2, il_len, lsO_non, tpO_non, scO_non, lsO_bl, tpO_bl, scO_bl, lsO_int, tpO_int, scO_int, lsO_str, tpO_str, scO_str, lsO_tup, tpO_tup, scO_tup, lsO_lst, tpO_lst, scO_lst, lsO_scr, tpO_scr, scO_scr, lsO_ref, tpO_ref, scO_ref, lsO_Dt, tpO_Dt, scO_Dt, lsO_Dl, tpO_Dl, scO_Dl, objOf, attrV, fldV, setO, putD, methB, meV, isLst, callV, pickV, inV2, scV, mapO, L2.inV, L2.eqV, List.lookup, beq_ofString, ofString_inj, line, f_Machine_do, Op.row, rT, hgo, Op.do, hrk]
def opOf (r : Row) : Op :=
  if r.1 = "take" then .take (at_ r.2.1 0) (at_ r.2.2.1 0) else if r.1 = "take!" then .takeB (at_ r.2.1 0) (at_ r.2.2.1 0) else if r.1 = "stop" then .stop else if r.1 = "back" then .back else
  if r.1 = "say" then .say (at_ r.2.1 0) else if r.1 = "move" then .move (at_ r.2.1 0) (at_ r.2.1 1) else if r.1 = "add" then .add (at_ r.2.1 0) (at_ r.2.1 1) else if r.1 = "less" then .less (at_ r.2.1 0) (at_ r.2.1 1) else
  if r.1 = "load" then .load (at_ r.2.1 0) (at_ r.2.2.1 0) else if r.1 = "store" then .store (at_ r.2.1 0) (at_ r.2.2.1 0) else if r.1 = "jump" then .jump (at_ r.2.2.1 0) else if r.1 = "call" then .call (at_ r.2.2.1 0) else
  if r.1 = "skip" then .skip (at_ r.2.2.1 0) else if r.1 = "zero" then .zero (at_ r.2.1 0) (at_ r.2.2.1 0) else if r.1 = "same" then .same (at_ r.2.1 0) (at_ r.2.1 1) (at_ r.2.2.1 0) else .copy (at_ r.2.2.1 0) (at_ r.2.2.1 1)
theorem opOf_row (o : Op) : opOf o.row = o := by cases o <;> simp [opOf, Op.row, at_]
def stepF (ws : List Int) (s : Mc) : Mc := match rowF ws s.place with
  | none => { s with why := if 0 ≤ s.place ∧ s.place < ws.length then "none" else "end" }
  | some r => (opOf r).do { s with past := s.past ++ [s.place] }
theorem MA_past (s : Mc) (x : Int) : MA ws { s with past := s.past ++ [x] } = (MA ws s).set 5 (.lst (il s.past ++ [.t (.int x)])) := by
  rw [il_snoc]; rfl
theorem step_ok (hw : Ws ws) (ok : s.ok) (hp : s.past.length < 1000) : run pg fns (k + 4) 8 [.ref 0] (MA ws s) = .ok (.t .non) (MA ws (stepF ws s)) := by
  rw [run_at fn_step]
  have hrow := row_ok (k + 1) (p := s.place) hw
  by_cases h : 0 ≤ s.place ∧ s.place < ws.length
  · obtain ⟨h0, h1⟩ := h
    unfold stepF
    cases q : rowF ws s.place with
    | none =>
      rw [q] at hrow
      simp only [MA]
      simp [fnV, evB, evS_asg, evS_fld, evS_sub, evS_expr, evS_retN, evS_ret, evS_ite, evE, evEs, evT, evAnd, evOr, evO, evC, evSr, Res.bind, okIf, idxV, sqOf, cmpV, cmpN, cmpI, truV, binV, asg, asgs, subV, mkL, mkLn, frzL, frzT, allT, isNB, at0, at1, at2, at3, L2.ixN, biV, eq_int, eq_str, line, lsOf_tl, tpOf_tl, scOf_tl, snap_t, allT_il, tl_fold, tl0, tl1, tl2, il0, il1, il2, il_len, lsO_non, tpO_non, scO_non, lsO_bl, tpO_bl, scO_bl, lsO_int, tpO_int, scO_int, lsO_str, tpO_str, scO_str, lsO_tup, tpO_tup, scO_tup, lsO_lst, tpO_lst, scO_lst, lsO_scr, tpO_scr, scO_scr, lsO_ref, tpO_ref, scO_ref, lsO_Dt, tpO_Dt, scO_Dt, lsO_Dl, tpO_Dl, scO_Dl, objOf, attrV, fldV, setO, putD, methB, meV, isLst, callV, pickV, inV2, scV, mapO, L2.inV, L2.eqV, List.lookup, beq_ofString, ofString_inj, line, f_Machine_step, h0, h1, hrow, rT]
    | some r =>
      rw [q] at hrow
      obtain ⟨o, hg, rfl⟩ := row_op hw q
      have hd := do_ok (k := k) (ws := ws) (s := { s with past := s.past ++ [s.place] }) o hg ⟨ok.c, ok.b, ok.l, by simp; omega, ok.y⟩
      have hl : s.past.length < 16777216 := by omega
      show _ = Res.ok (D.t .non) (MA ws ((opOf o.row).do { s with past := s.past ++ [s.place] }))
      rw [opOf_row]
      rw [rT_row] at hrow hd
      simp only [MA] at hd ⊢
      simp only [← il_snoc] at hd ⊢
      simp [fnV, evB, evS_asg, evS_fld, evS_sub, evS_expr, evS_retN, evS_ret, evS_ite, evE, evEs, evT, evAnd, evOr, evO, evC, evSr, Res.bind, okIf, idxV, sqOf, cmpV, cmpN, cmpI, truV, binV, asg, asgs, subV, mkL, mkLn, frzL, frzT, allT, isNB, at0, at1, at2, at3, L2.ixN, biV, eq_int, eq_str, line, lsOf_tl, tpOf_tl, scOf_tl, snap_t, allT_il, tl_fold, tl0, tl1, tl2, il0, il1, il2, il_len, lsO_non, tpO_non, scO_non, lsO_bl, tpO_bl, scO_bl, lsO_int, tpO_int, scO_int, lsO_str, tpO_str, scO_str, lsO_tup, tpO_tup, scO_tup, lsO_lst, tpO_lst, scO_lst, lsO_scr, tpO_scr, scO_scr, lsO_ref, tpO_ref, scO_ref, lsO_Dt, tpO_Dt, scO_Dt, lsO_Dl, tpO_Dl, scO_Dl, objOf, attrV, fldV, setO, putD, methB, meV, isLst, callV, pickV, inV2, scV, mapO, L2.inV, L2.eqV, List.lookup, beq_ofString, ofString_inj, line, f_Machine_step, h0, h1, hrow, hd, hl]
  · have e : rowF ws s.place = none := by unfold rowF; rw [if_neg h]
    unfold stepF
    rw [e]
    simp only [MA, if_neg h]
    by_cases h0 : 0 ≤ s.place
    · have h1 : ¬ s.place < ws.length := fun z => h ⟨h0, z⟩
      simp [fnV, evB, evS_asg, evS_fld, evS_sub, evS_expr, evS_retN, evS_ret, evS_ite, evE, evEs, evT, evAnd, evOr, evO, evC, evSr, Res.bind, okIf, idxV, sqOf, cmpV, cmpN, cmpI, truV, binV, asg, asgs, subV, mkL, mkLn, frzL, frzT, allT, isNB, at0, at1, at2, at3, L2.ixN, biV, eq_int, eq_str, line, lsOf_tl, tpOf_tl, scOf_tl, snap_t, allT_il, tl_fold, tl0, tl1, tl2, il0, il1, il2, il_len, lsO_non, tpO_non, scO_non, lsO_bl, tpO_bl, scO_bl, lsO_int, tpO_int, scO_int, lsO_str, tpO_str, scO_str, lsO_tup, tpO_tup, scO_tup, lsO_lst, tpO_lst, scO_lst, lsO_scr, tpO_scr, scO_scr, lsO_ref, tpO_ref, scO_ref, lsO_Dt, tpO_Dt, scO_Dt, lsO_Dl, tpO_Dl, scO_Dl, objOf, attrV, fldV, setO, putD, methB, meV, isLst, callV, pickV, inV2, scV, mapO, L2.inV, L2.eqV, List.lookup, beq_ofString, ofString_inj, line, f_Machine_step, h0, h1]
    · simp [fnV, evB, evS_asg, evS_fld, evS_sub, evS_expr, evS_retN, evS_ret, evS_ite, evE, evEs, evT, evAnd, evOr, evO, evC, evSr, Res.bind, okIf, idxV, sqOf, cmpV, cmpN, cmpI, truV, binV, asg, asgs, subV, mkL, mkLn, frzL, frzT, allT, isNB, at0, at1, at2, at3, L2.ixN, biV, eq_int, eq_str, line, lsOf_tl, tpOf_tl, scOf_tl, snap_t, allT_il, tl_fold, tl0, tl1, tl2, il0, il1, il2, il_len, lsO_non, tpO_non, scO_non, lsO_bl, tpO_bl, scO_bl, lsO_int, tpO_int, scO_int, lsO_str, tpO_str, scO_str, lsO_tup, tpO_tup, scO_tup, lsO_lst, tpO_lst, scO_lst, lsO_scr, tpO_scr, scO_scr, lsO_ref, tpO_ref, scO_ref, lsO_Dt, tpO_Dt, scO_Dt, lsO_Dl, tpO_Dl, scO_Dl, objOf, attrV, fldV, setO, putD, methB, meV, isLst, callV, pickV, inV2, scV, mapO, L2.inV, L2.eqV, List.lookup, beq_ofString, ofString_inj, line, f_Machine_step, h0]
end Rw.K02
end

section
set_option Elab.async false
set_option linter.all false
set_option maxRecDepth 100000
set_option maxHeartbeats 0
/-! k02: the program's run -/
namespace Rw
def iter {σ : Type} (go : σ → Bool) (st : σ → σ) : Nat → σ → σ
  | 0, s => s
  | n + 1, s => if go s = true then iter go st n (st s) else s
theorem whl_sim {σ : Type} {c : En → Ar → Res Bool} {b : En → Ar → Res Fl} (R : σ → En → Ar → Prop) (go : σ → Bool) (st : σ → σ) (mu : σ → Nat)
    (hc : ∀ s r M, R s r M → c r M = .ok (go s) M) (hb : ∀ s r M, R s r M → go s = true → ∃ r' M', b r M = .ok (.nx r') M' ∧ R (st s) r' M') (hm : ∀ s, go s = true → mu (st s) < mu s) :
    ∀ (n N : Nat) (s : σ) (r : En) (M : Ar), mu s ≤ n → n < N → R s r M → ∃ r' M', whl c b N r M = .ok (.nx r') M' ∧ R (iter go st n s) r' M' := by
  intro n
  induction n with
  | zero =>
    intro N s r M h0 hN hR
    cases N with
    | zero => omega
    | succ N =>
      have hg : go s = false := by
        cases q : go s with
        | false => rfl
        | true => have := hm s q; omega
      refine ⟨r, M, ?_, hR⟩
      unfold whl
      rw [hc s r M hR, hg]
      rfl
  | succ n ih =>
    intro N s r M h0 hN hR
    cases N with
    | zero => omega
    | succ N =>
      cases hg : go s with
      | false =>
        refine ⟨r, M, ?_, ?_⟩
        · unfold whl
          rw [hc s r M hR, hg]
          rfl
        · unfold iter; rw [hg, if_neg (by simp)]; exact hR
      | true =>
        obtain ⟨r1, M1, e1, h1⟩ := hb s r M hR hg
        obtain ⟨r2, M2, e2, h2⟩ := ih N (st s) r1 M1 (by have := hm s hg; omega) (by omega) h1
        refine ⟨r2, M2, ?_, ?_⟩
        · unfold whl
          rw [hc s r M hR, hg]
          show ((b r M).bind _) = _
          rw [e1]
          exact e2
        · unfold iter; rw [hg, if_pos rfl]; exact h2
theorem rep_flat {α : Type} (n : Nat) (x : α) : (List.replicate n [x]).flatten = List.replicate n x := by
  induction n with
  | zero => rfl
  | succ n ih => rw [List.replicate_succ, List.flatten_cons, ih]; rfl
theorem il_rep (n : Nat) (x : Int) : List.replicate n (D.t (.int x)) = il (List.replicate n x) := by simp [il]
theorem iter_inv {σ : Type} {go : σ → Bool} {st : σ → σ} (I : σ → Prop) (h : ∀ s, I s → go s = true → I (st s)) : ∀ n s, I s → I (iter go st n s)
  | 0, s, hs => hs
  | n + 1, s, hs => by
    unfold iter
    split
    · rename_i q; exact iter_inv I h n _ (h s hs q)
    · exact hs
end Rw
namespace Rw.K02
open PySem
variable {k : Nat} {ws : List Int} {s : Mc}
theorem isnum_ok {w a b : Int} : run pg fns (k + 1) 0 [.t (.int w), .t (.int a), .t (.int b)] [] = .ok (.t (.bl (decide (a ≤ w) && decide (w ≤ b)))) [] := by
  rw [run_at (fn := f_is_number) (by kernel_rfl)]
  by_cases h1 : a ≤ w <;> by_cases h2 : w ≤ b <;> simp [fnV, evB, evS_asg, evS_fld, evS_sub, evS_expr, evS_retN, evS_ret, evS_ite, evE, evEs, evT, evAnd, evOr, evO, evC, evSr, Res.bind, okIf, idxV, sqOf, cmpV, cmpN, cmpI, truV, binV, asg, asgs, subV, mkL, mkLn, frzL, frzT, allT, isNB, at0, at1, at2, at3, L2.ixN, biV, eq_int, eq_str, line, lsOf_tl, tpOf_tl, scOf_tl, snap_t, allT_il, tl_fold, tl0, tl1, tl2, il0, il1, il2, il_len, lsO_non, tpO_non, scO_non, lsO_bl, tpO_bl, scO_bl, lsO_int, tpO_int, scO_int, lsO_str, tpO_str, scO_str, lsO_tup, tpO_tup, scO_tup, lsO_lst, tpO_lst, scO_lst, lsO_scr, tpO_scr, scO_scr, lsO_ref, tpO_ref, scO_ref, lsO_Dt, tpO_Dt, scO_Dt, lsO_Dl, tpO_Dl, scO_Dl, f_is_number, isV, tyD, tyT, isTy, h1, h2]
theorem need_ok (hw : Ws ws) (hl : ws.length ≤ 256) : run pg fns (k + 2) 1 [.t (tl ws)] [] = .ok (.t .non) [] := by
  rw [run_at (fn := f_need_words) (by kernel_rfl)]
  obtain ⟨r', M', e, rfl, _⟩ := forF_idx (b := forBody pg (run pg fns (k + 1)) (.tup [(.var 1), (.var 2)]) f_need_words_B0) (fun i r M => M = [] ∧ ∃ x y, r = [some (.t (tl ws)), x, y]) (enuL 0 (il ws)) 0 [some (.t (tl ws)), none, none] [] (fun i d hd r M h => by
    obtain ⟨rfl, x, y, rfl⟩ := h
    rw [enuL_get, il_get] at hd
    cases q : ws[i]? with
    | none => rw [q] at hd; cases hd
    | some w =>
      rw [q] at hd
      cases hd
      obtain ⟨w0, w1⟩ := hw w (List.mem_of_getElem? q)
      have hi : i < ws.length := (List.getElem?_eq_some_iff.mp q).1
      have h1 : ¬ ((i : Int) = 256) := by omega
      have h2 : w ≤ 255 := by omega
      refine ⟨[some (.t (tl ws)), some (.t (.int i)), some (.t (.int w))], [], ?_, rfl, _, _, rfl⟩
      simp [fnV, evB, evS_asg, evS_fld, evS_sub, evS_expr, evS_retN, evS_ret, evS_ite, evE, evEs, evT, evAnd, evOr, evO, evC, evSr, Res.bind, okIf, idxV, sqOf, cmpV, cmpN, cmpI, truV, binV, asg, asgs, subV, mkL, mkLn, frzL, frzT, allT, isNB, at0, at1, at2, at3, L2.ixN, biV, eq_int, eq_str, line, lsOf_tl, tpOf_tl, scOf_tl, snap_t, allT_il, tl_fold, tl0, tl1, tl2, il0, il1, il2, il_len, lsO_non, tpO_non, scO_non, lsO_bl, tpO_bl, scO_bl, lsO_int, tpO_int, scO_int, lsO_str, tpO_str, scO_str, lsO_tup, tpO_tup, scO_tup, lsO_lst, tpO_lst, scO_lst, lsO_scr, tpO_scr, scO_scr, lsO_ref, tpO_ref, scO_ref, lsO_Dt, tpO_Dt, scO_Dt, lsO_Dl, tpO_Dl, scO_Dl, forBody, f_need_words_B0, gl0, h1, callV, isnum_ok, w0, h2]) ⟨rfl, none, none, rfl⟩
  have e2 : evS pg (run pg fns (k + 1)) f_need_words_L0 [some (.t (tl ws)), none, none] [] = _ := evS_for _ _ (by simp [fnV, evB, evS_asg, evS_fld, evS_sub, evS_expr, evS_retN, evS_ret, evS_ite, evE, evEs, evT, evAnd, evOr, evO, evC, evSr, Res.bind, okIf, idxV, sqOf, cmpV, cmpN, cmpI, truV, binV, asg, asgs, subV, mkL, mkLn, frzL, frzT, allT, isNB, at0, at1, at2, at3, L2.ixN, biV, eq_int, eq_str, line, lsOf_tl, tpOf_tl, scOf_tl, snap_t, allT_il, tl_fold, tl0, tl1, tl2, il0, il1, il2, il_len, lsO_non, tpO_non, scO_non, lsO_bl, tpO_bl, scO_bl, lsO_int, tpO_int, scO_int, lsO_str, tpO_str, scO_str, lsO_tup, tpO_tup, scO_tup, lsO_lst, tpO_lst, scO_lst, lsO_scr, tpO_scr, scO_scr, lsO_ref, tpO_ref, scO_ref, lsO_Dt, tpO_Dt, scO_Dt, lsO_Dl, tpO_Dl, scO_Dl, srEnu]) e
  simp [fnV, evB, evS_asg, evS_fld, evS_sub, evS_expr, evS_retN, evS_ret, evS_ite, evE, evEs, evT, evAnd, evOr, evO, evC, evSr, Res.bind, okIf, idxV, sqOf, cmpV, cmpN, cmpI, truV, binV, asg, asgs, subV, mkL, mkLn, frzL, frzT, allT, isNB, at0, at1, at2, at3, L2.ixN, biV, eq_int, eq_str, line, lsOf_tl, tpOf_tl, scOf_tl, snap_t, allT_il, tl_fold, tl0, tl1, tl2, il0, il1, il2, il_len, lsO_non, tpO_non, scO_non, lsO_bl, tpO_bl, scO_bl, lsO_int, tpO_int, scO_int, lsO_str, tpO_str, scO_str, lsO_tup, tpO_tup, scO_tup, lsO_lst, tpO_lst, scO_lst, lsO_scr, tpO_scr, scO_scr, lsO_ref, tpO_ref, scO_ref, lsO_Dt, tpO_Dt, scO_Dt, lsO_Dl, tpO_Dl, scO_Dl, f_need_words, e2]
def initF (ws : List Int) (b : Int) : Mc := ⟨ws ++ List.replicate (256 - ws.length) 0, [0, 0, 0, 0], b, [], [], "", []⟩
theorem init_ok {b : Int} (hl : ws.length ≤ 256) : run pg fns (k + 1) 7 [.ref 0, .t (tl ws), .t (.int b)] [.obj 0 []] = .ok (.t .non) (MA ws (initF ws b)) := by
  rw [run_at (fn := f_Machine___init__) (by kernel_rfl)]
  have h1 : (-9223372036854775808 : Int) ≤ 256 - ws.length := by omega
  have h2 : (256 : Int) - ws.length < 9223372036854775808 := by omega
  have h3 : ((256 : Int) - ws.length).toNat = 256 - ws.length := by omega
  have h4 : ws.length + (256 - ws.length) ≤ 16777216 := by omega
  have h5 : 256 - ws.length ≤ 16777216 := by omega
  simp [fnV, evB, evS_asg, evS_fld, evS_sub, evS_expr, evS_retN, evS_ret, evS_ite, evE, evEs, evT, evAnd, evOr, evO, evC, evSr, Res.bind, okIf, idxV, sqOf, cmpV, cmpN, cmpI, truV, binV, asg, asgs, subV, mkL, mkLn, frzL, frzT, allT, isNB, at0, at1, at2, at3, L2.ixN, biV, eq_int, eq_str, line, lsOf_tl, tpOf_tl, scOf_tl, snap_t, allT_il, tl_fold, tl0, tl1, tl2, il0, il1, il2, il_len, lsO_non, tpO_non, scO_non, lsO_bl, tpO_bl, scO_bl, lsO_int, tpO_int, scO_int, lsO_str, tpO_str, scO_str, lsO_tup, tpO_tup, scO_tup, lsO_lst, tpO_lst, scO_lst, lsO_scr, tpO_scr, scO_scr, lsO_ref, tpO_ref, scO_ref, lsO_Dt, tpO_Dt, scO_Dt, lsO_Dl, tpO_Dl, scO_Dl, objOf, attrV, fldV, setO, putD, methB, meV, isLst, callV, pickV, inV2, scV, mapO, L2.inV, L2.eqV, List.lookup, beq_ofString, ofString_inj, line, f_Machine___init__, gl0, repL, h1, h2, h3, h4, h5, rep_flat, il_rep, il_app, MA, initF]
  rfl
structure Iv (s : Mc) : Prop where
  c : s.cells.length = 256
  b : s.boxes.length = 4
  l : s.calls.length ≤ 16
  y : s.says.length ≤ s.past.length
theorem Iv.ok (h : Iv s) (hp : s.past.length ≤ 1000) : s.ok := ⟨h.c, h.b, h.l, hp, by have := h.y; omega⟩
theorem do_iv (o : Op) (h : Iv s) (x : Int) : Iv (o.do { s with past := s.past ++ [x] }) ∧ (o.do { s with past := s.past ++ [x] }).past = s.past ++ [x] := by
  obtain ⟨c, b, l, y⟩ := h
  cases o with
  | back =>
    unfold Op.do
    by_cases q : s.calls = []
    · simp only [q, if_true]; exact ⟨⟨c, b, by simp, by simp; omega⟩, trivial⟩
    · simp only [q, if_false]; exact ⟨⟨c, b, by simp; omega, by simp; omega⟩, trivial⟩
  | call n =>
    unfold Op.do
    by_cases q : s.calls.length = 16
    · simp only [q, if_true]; exact ⟨⟨c, b, l, by simp; omega⟩, trivial⟩
    · simp only [q, if_false]; exact ⟨⟨c, b, by simp; omega, by simp; omega⟩, trivial⟩
  | _ => exact ⟨⟨by simp [Op.do, c], by simp [Op.do, b], l, by simp [Op.do]; omega⟩, rfl⟩
theorem step_iv (h : Iv s) : Iv (stepF ws s) ∧ ((stepF ws s).past.length = s.past.length + 1 ∨ ((stepF ws s).past = s.past ∧ (stepF ws s).why ≠ "")) := by
  unfold stepF
  cases q : rowF ws s.place with
  | none => exact ⟨⟨h.c, h.b, h.l, h.y⟩, .inr ⟨rfl, by dsimp only; split <;> decide⟩⟩
  | some r =>
    obtain ⟨h1, h2⟩ := do_iv (opOf r) h s.place
    refine ⟨h1, .inl ?_⟩
    show ((opOf r).do { s with past := s.past ++ [s.place] }).past.length = _
    rw [h2]; simp
def goF (most : Nat) (s : Mc) : Bool := decide (s.why = "") && decide (s.past.length < most)
def muF (most : Nat) (s : Mc) : Nat := (if s.why = "" then 1 else 0) + (most - s.past.length)
/-- states that the loops reach -/
structure Reach (ws : List Int) (most : Nat) (s : Mc) : Prop where
  iv : Iv s
  p : s.past.length ≤ most
theorem reach_step {most : Nat} (h : Reach ws most s) (g : goF most s = true) : Reach ws most (stepF ws s) ∧ muF most (stepF ws s) < muF most s := by
  obtain ⟨g1, g2⟩ := ba2 g
  have g1 := of_decide_eq_true g1
  have g2 := of_decide_eq_true g2
  obtain ⟨i, z⟩ := step_iv (ws := ws) h.iv
  refine ⟨⟨i, ?_⟩, ?_⟩
  · rcases z with z | ⟨z, _⟩
    · omega
    · rw [z]; exact h.p
  · unfold muF
    rw [if_pos g1]
    rcases z with z | ⟨z, n⟩
    · split <;> omega
    · rw [if_neg n, z]; omega
def finF (ws : List Int) (b : Int) (most : Nat) : Mc := iter (goF most) (stepF ws) (most + 1) (initF ws b)
theorem init_reach {b : Int} {most : Nat} (hl : ws.length ≤ 256) : Reach ws most (initF ws b) := ⟨⟨by simp [initF]; omega, rfl, by simp [initF], by simp [initF]⟩, by simp [initF]⟩
/-- the object as the whole run leaves it -/
theorem run_ok {b : Int} {most : Nat} (hw : Ws ws) (hl : ws.length ≤ 256) (hb0 : 0 ≤ b) (hb1 : b < 256) (hm : most ≤ 1000) :
    run pg fns (k + 6) 13 [.t (tl ws), .t (.int b), .t (.int most)] [] = .ok (.tup [.ref 4, .t (.str (Str.ofString (finF ws b most).why)), .ref 5]) (MA ws (finF ws b most)) := by
  rw [run_at (fn := f_run) (by kernel_rfl)]
  have key := whl_sim (c := evT pg (run pg fns (k + 5)) (.and [(.cmp .eq (.attr 0 (.var 3) "why") (.con (.str ""))), (.cmp .lt (.bi .len [(.attr 0 (.var 3) "past")]) (.var 2))])) (b := evB pg (run pg fns (k + 5)) f_run_B0)
    (fun (s : {s : Mc // Reach ws most s}) r M => r = [some (.t (tl ws)), some (.t (.int b)), some (.t (.int most)), some (.ref 0)] ∧ M = MA ws s.1)
    (fun s => goF most s.1) (fun s => if h : goF most s.1 = true then ⟨stepF ws s.1, (reach_step s.2 h).1⟩ else s) (fun s => muF most s.1)
    (fun s r M h => by
      obtain ⟨rfl, rfl⟩ := h
      unfold goF
      by_cases h1 : s.1.why = "" <;> by_cases h2 : s.1.past.length < most <;> simp [fnV, evB, evS_asg, evS_fld, evS_sub, evS_expr, evS_retN, evS_ret, evS_ite, evE, evEs, evT, evAnd, evOr, evO, evC, evSr, Res.bind, okIf, idxV, sqOf, cmpV, cmpN, cmpI, truV, binV, asg, asgs, subV, mkL, mkLn, frzL, frzT, allT, isNB, at0, at1, at2, at3, L2.ixN, biV, eq_int, eq_str, line, lsOf_tl, tpOf_tl, scOf_tl, snap_t, allT_il, tl_fold, tl0, tl1, tl2, il0, il1, il2, il_len, lsO_non, tpO_non, scO_non, lsO_bl, tpO_bl, scO_bl, lsO_int, tpO_int, scO_int, lsO_str, tpO_str, scO_str, lsO_tup, tpO_tup, scO_tup, lsO_lst, tpO_lst, scO_lst, lsO_scr, tpO_scr, scO_scr, lsO_ref, tpO_ref, scO_ref, lsO_Dt, tpO_Dt, scO_Dt, lsO_Dl, tpO_Dl, scO_Dl, objOf, attrV, fldV, setO, putD, methB, meV, isLst, callV, pickV, inV2, scV, mapO, L2.inV, L2.eqV, List.lookup, beq_ofString, ofString_inj, line, MA, h1, h2])
    (fun s r M h g => by
      obtain ⟨rfl, rfl⟩ := h
      have g' : goF most s.1 = true := g
      have hp : s.1.past.length < most := of_decide_eq_true (ba2 g').2
      have st := step_ok (k := k + 1) hw (s.2.iv.ok (by omega)) (by omega)
      refine ⟨_, MA ws (stepF ws s.1), ?_, rfl, by rw [dif_pos g']⟩
      simp only [MA] at st ⊢
      simp [fnV, evB, evS_asg, evS_fld, evS_sub, evS_expr, evS_retN, evS_ret, evS_ite, evE, evEs, evT, evAnd, evOr, evO, evC, evSr, Res.bind, okIf, idxV, sqOf, cmpV, cmpN, cmpI, truV, binV, asg, asgs, subV, mkL, mkLn, frzL, frzT, allT, isNB, at0, at1, at2, at3, L2.ixN, biV, eq_int, eq_str, line, lsOf_tl, tpOf_tl, scOf_tl, snap_t, allT_il, tl_fold, tl0, tl1, tl2, il0, il1, il2, il_len, lsO_non, tpO_non, scO_non, lsO_bl, tpO_bl, scO_bl, lsO_int, tpO_int, scO_int, lsO_str, tpO_str, scO_str, lsO_tup, tpO_tup, scO_tup, lsO_lst, tpO_lst, scO_lst, lsO_scr, tpO_scr, scO_scr, lsO_ref, tpO_ref, scO_ref, lsO_Dt, tpO_Dt, scO_Dt, lsO_Dl, tpO_Dl, scO_Dl, objOf, attrV, fldV, setO, putD, methB, meV, isLst, callV, pickV, inV2, scV, mapO, L2.inV, L2.eqV, List.lookup, beq_ofString, ofString_inj, line, f_run_B0, st])
    (fun s g => by
      have g' : goF most s.1 = true := g
      show muF most (if h : goF most s.1 = true then (⟨stepF ws s.1, (reach_step s.2 h).1⟩ : {s : Mc // Reach ws most s}) else s).1 < _
      rw [dif_pos g']
      exact (reach_step s.2 g').2)
    (most + 1) wfuel ⟨initF ws b, init_reach hl⟩ _ _ (by show muF most (initF ws b) ≤ _; unfold muF initF; simp; omega) (by unfold wfuel; omega) ⟨rfl, rfl⟩
  obtain ⟨r', M', e, rfl, rfl⟩ := key
  have it : ∀ n (s : {s : Mc // Reach ws most s}), (iter (fun s : {s : Mc // Reach ws most s} => goF most s.1) (fun s => if h : goF most s.1 = true then ⟨stepF ws s.1, (reach_step s.2 h).1⟩ else s) n s).1 = iter (goF most) (stepF ws) n s.1 := by
    intro n
    induction n with
    | zero => intro s; rfl
    | succ n ih =>
      intro s
      unfold iter
      by_cases g : goF most s.1 = true
      · rw [if_pos g, if_pos g, ih, dif_pos g]
      · rw [if_neg g, if_neg g]
  rw [it] at e
  have e2 : evS pg (run pg fns (k + 5)) f_run_L0 [some (.t (tl ws)), some (.t (.int b)), some (.t (.int most)), some (.ref 0)] (MA ws (initF ws b)) = .ok (.nx [some (.t (tl ws)), some (.t (.int b)), some (.t (.int most)), some (.ref 0)]) (MA ws (finF ws b most)) := by
    unfold f_run_L0
    rw [evS_whl]
    exact e
  have hn := need_ok (k := k + 3) hw hl
  have hi := init_ok (k := k + 4) (b := b) hl
  have hb2 : b ≤ 255 := by omega
  have hm2 : (most : Int) ≤ 1000 := by omega
  have gl4 : pg.consts[4]? = some (("MOST_STEPS" : Str), T.int 1000) := by kernel_rfl
  simp only [MA] at hi e2 ⊢
  simp [fnV, evB, evS_asg, evS_fld, evS_sub, evS_expr, evS_retN, evS_ret, evS_ite, evE, evEs, evT, evAnd, evOr, evO, evC, evSr, Res.bind, okIf, idxV, sqOf, cmpV, cmpN, cmpI, truV, binV, asg, asgs, subV, mkL, mkLn, frzL, frzT, allT, isNB, at0, at1, at2, at3, L2.ixN, biV, eq_int, eq_str, line, lsOf_tl, tpOf_tl, scOf_tl, snap_t, allT_il, tl_fold, tl0, tl1, tl2, il0, il1, il2, il_len, lsO_non, tpO_non, scO_non, lsO_bl, tpO_bl, scO_bl, lsO_int, tpO_int, scO_int, lsO_str, tpO_str, scO_str, lsO_tup, tpO_tup, scO_tup, lsO_lst, tpO_lst, scO_lst, lsO_scr, tpO_scr, scO_scr, lsO_ref, tpO_ref, scO_ref, lsO_Dt, tpO_Dt, scO_Dt, lsO_Dl, tpO_Dl, scO_Dl, objOf, attrV, fldV, setO, putD, methB, meV, isLst, callV, pickV, inV2, scV, mapO, L2.inV, L2.eqV, List.lookup, beq_ofString, ofString_inj, line, f_run, gl0, gl4, hn, isnum_ok, hb0, hb2, hm2, hi, e2]
end Rw.K02
end

section
set_option Elab.async false
set_option linter.all false
set_option maxRecDepth 100000
/-! the evaluator, one step at a time (no step looks ahead) -/
namespace Rw
open PySem
section
variable (P : Pg) (G : Cal)
def kSeq (ss : List Sm) (x : Res Fl) : Res Fl := x.bind fun f M => match f with
  | .nx r' => evB P G ss r' M
  | .rt d => .ok (.rt d) M
theorem kSeq_k0 (ss : List Sm) (r : En) (M : Ar) : kSeq P G ss (.ok (.nx r) M) = evB P G ss r M := rfl
theorem kSeq_k1 (ss : List Sm) (d : D) (M : Ar) : kSeq P G ss (.ok (.rt d) M) = .ok (.rt d) M := rfl
theorem xB0 (r : En) (M : Ar) : evB P G [] r M = .ok (.nx r) M := by first | (simp only [evS, evB, evE, evEs, evAnd, evOr, evO, evC, evSr, evT]; rfl) | simp only [evS, evB, evE, evEs, evAnd, evOr, evO, evC, evSr, evT]
theorem xB1 (s : Sm) (ss : List Sm) (r : En) (M : Ar) : evB P G (s :: ss) r M = kSeq P G ss (evS P G s r M) := by first | (simp only [evS, evB, evE, evEs, evAnd, evOr, evO, evC, evSr, evT]; rfl) | simp only [evS, evB, evE, evEs, evAnd, evOr, evO, evC, evSr, evT]
def kAsg (tg : Tg) (r : En) (x : Res D) : Res Fl := x.bind fun d M => match asg tg d M r with
  | some r' => .ok (.nx r') M
  | none => .stuck
theorem kAsg_k0 (tg : Tg) (r : En) (d : D) (M : Ar) : kAsg tg r (.ok d M) = (match asg tg d M r with
  | some r' => .ok (.nx r') M
  | none => .stuck) := rfl
theorem xAsg (tg : Tg) (e : Ex) (r : En) (M : Ar) : evS P G (.asg tg e) r M = kAsg tg r (evE P G e r M) := by first | (simp only [evS, evB, evE, evEs, evAnd, evOr, evO, evC, evSr, evT]; rfl) | simp only [evS, evB, evE, evEs, evAnd, evOr, evO, evC, evSr, evT]
def kNx (r : En) (x : Res Unit) : Res Fl := x.bind fun _ M => .ok (.nx r) M
theorem kNx_k0 (r : En) (u : Unit) (M : Ar) : kNx r (.ok u M) = .ok (.nx r) M := rfl
def kNxD (r : En) (x : Res D) : Res Fl := x.bind fun _ M => .ok (.nx r) M
theorem kNxD_k0 (r : En) (u : D) (M : Ar) : kNxD r (.ok u M) = .ok (.nx r) M := rfl
def kFl2 (c : Nat) (f : Str) (r : En) (d : D) (x : Res D) : Res Fl := x.bind fun x M => kNx r (fldV c x f d M)
theorem kFl2_k0 (c : Nat) (f : Str) (r : En) (d : D) (x : D) (M : Ar) : kFl2 c f r d (.ok x M) = kNx r (fldV c x f d M) := rfl
def kFl1 (c : Nat) (o : Ex) (f : Str) (r : En) (x : Res D) : Res Fl := x.bind fun d M => kFl2 c f r d (evE P G o r M)
theorem kFl1_k0 (c : Nat) (o : Ex) (f : Str) (r : En) (d : D) (M : Ar) : kFl1 P G c o f r (.ok d M) = kFl2 c f r d (evE P G o r M) := rfl
theorem xFld (c : Nat) (o : Ex) (f : Str) (e : Ex) (r : En) (M : Ar) : evS P G (.fld c o f e) r M = kFl1 P G c o f r (evE P G e r M) := by first | (simp only [evS, evB, evE, evEs, evAnd, evOr, evO, evC, evSr, evT]; rfl) | simp only [evS, evB, evE, evEs, evAnd, evOr, evO, evC, evSr, evT]
def kSu3 (r : En) (d : D) (x0 : D) (x : Res D) : Res Fl := x.bind fun y M => kNx r (subV x0 y d M)
theorem kSu3_k0 (r : En) (d : D) (x : D) (y : D) (M : Ar) : kSu3 r d x (.ok y M) = kNx r (subV x y d M) := rfl
def kSu2 (i : Ex) (r : En) (d : D) (x : Res D) : Res Fl := x.bind fun x M => kSu3 r d x (evE P G i r M)
theorem kSu2_k0 (i : Ex) (r : En) (d : D) (x : D) (M : Ar) : kSu2 P G i r d (.ok x M) = kSu3 r d x (evE P G i r M) := rfl
def kSu1 (o : Ex) (i : Ex) (r : En) (x : Res D) : Res Fl := x.bind fun d M => kSu2 P G i r d (evE P G o r M)
theorem kSu1_k0 (o : Ex) (i : Ex) (r : En) (d : D) (M : Ar) : kSu1 P G o i r (.ok d M) = kSu2 P G i r d (evE P G o r M) := rfl
theorem xSub (o i e : Ex) (r : En) (M : Ar) : evS P G (.sub o i e) r M = kSu1 P G o i r (evE P G e r M) := by first | (simp only [evS, evB, evE, evEs, evAnd, evOr, evO, evC, evSr, evT]; rfl) | simp only [evS, evB, evE, evEs, evAnd, evOr, evO, evC, evSr, evT]
theorem xExpr (e : Ex) (r : En) (M : Ar) : evS P G (.expr e) r M = kNxD r (evE P G e r M) := by first | (simp only [evS, evB, evE, evEs, evAnd, evOr, evO, evC, evSr, evT]; rfl) | simp only [evS, evB, evE, evEs, evAnd, evOr, evO, evC, evSr, evT]
theorem xRetN (r : En) (M : Ar) : evS P G (.ret none) r M = .ok (.rt (.t .non)) M := by first | (simp only [evS, evB, evE, evEs, evAnd, evOr, evO, evC, evSr, evT]; rfl) | simp only [evS, evB, evE, evEs, evAnd, evOr, evO, evC, evSr, evT]
def kRet  (x : Res D) : Res Fl := x.bind fun d M => .ok (.rt d) M
theorem kRet_k0  (d : D) (M : Ar) : kRet  (.ok d M) = .ok (.rt d) M := rfl
theorem xRet (e : Ex) (r : En) (M : Ar) : evS P G (.ret (some e)) r M = kRet (evE P G e r M) := by first | (simp only [evS, evB, evE, evEs, evAnd, evOr, evO, evC, evSr, evT]; rfl) | simp only [evS, evB, evE, evEs, evAnd, evOr, evO, evC, evSr, evT]
def kIte (a : List Sm) (b : List Sm) (r : En) (x : Res Bool) : Res Fl := x.bind fun k M => match k with
  | true => evB P G a r M
  | false => evB P G b r M
theorem kIte_k0 (a : List Sm) (b : List Sm) (r : En) (M : Ar) : kIte P G a b r (.ok true M) = evB P G a r M := rfl
theorem kIte_k1 (a : List Sm) (b : List Sm) (r : En) (M : Ar) : kIte P G a b r (.ok false M) = evB P G b r M := rfl
theorem xIte (c : Ex) (a b : List Sm) (r : En) (M : Ar) : evS P G (.ite c a b) r M = kIte P G a b r (evT P G c r M) := by first | (simp only [evS, evB, evE, evEs, evAnd, evOr, evO, evC, evSr, evT]; rfl) | simp only [evS, evB, evE, evEs, evAnd, evOr, evO, evC, evSr, evT]
def kTru  (x : Res D) : Res Bool := x.bind truV
theorem kTru_k0  (d : D) (M : Ar) : kTru  (.ok d M) = truV d M := rfl
theorem xT (e : Ex) (r : En) (M : Ar) : evT P G e r M = kTru (evE P G e r M) := by first | (simp only [evS, evB, evE, evEs, evAnd, evOr, evO, evC, evSr, evT]; rfl) | simp only [evS, evB, evE, evEs, evAnd, evOr, evO, evC, evSr, evT]
theorem xVar (i : Nat) (r : En) (M : Ar) : evE P G (.var i) r M = (match r[i]? with
  | some (some d) => .ok d M
  | _ => .stuck) := by first | (simp only [evS, evB, evE, evEs, evAnd, evOr, evO, evC, evSr, evT]; rfl) | simp only [evS, evB, evE, evEs, evAnd, evOr, evO, evC, evSr, evT]
theorem xCon (t : T) (r : En) (M : Ar) : evE P G (.con t) r M = .ok (.t t) M := by first | (simp only [evS, evB, evE, evEs, evAnd, evOr, evO, evC, evSr, evT]; rfl) | simp only [evS, evB, evE, evEs, evAnd, evOr, evO, evC, evSr, evT]
theorem xGlo (n : Nat) (r : En) (M : Ar) : evE P G (.glo n) r M = (match P.consts[n]? with
  | some (_, t) => .ok (.t t) M
  | none => .stuck) := by first | (simp only [evS, evB, evE, evEs, evAnd, evOr, evO, evC, evSr, evT]; rfl) | simp only [evS, evB, evE, evEs, evAnd, evOr, evO, evC, evSr, evT]
def kBi2 (o : BinK) (mu : Bool) (x0 : D) (x : Res D) : Res D := x.bind fun y M => binV o mu x0 y M
theorem kBi2_k0 (o : BinK) (mu : Bool) (x0 : D) (y : D) (M : Ar) : kBi2 o mu x0 (.ok y M) = binV o mu x0 y M := rfl
def kBi1 (o : BinK) (mu : Bool) (b : Ex) (r : En) (x : Res D) : Res D := x.bind fun x M => kBi2 o mu x (evE P G b r M)
theorem kBi1_k0 (o : BinK) (mu : Bool) (b : Ex) (r : En) (d : D) (M : Ar) : kBi1 P G o mu b r (.ok d M) = kBi2 o mu d (evE P G b r M) := rfl
theorem xBin (o : BinK) (mu : Bool) (a b : Ex) (r : En) (M : Ar) : evE P G (.bin o mu a b) r M = kBi1 P G o mu b r (evE P G a r M) := by first | (simp only [evS, evB, evE, evEs, evAnd, evOr, evO, evC, evSr, evT]; rfl) | simp only [evS, evB, evE, evEs, evAnd, evOr, evO, evC, evSr, evT]
def kNeg  (x : Res D) : Res D := x.bind fun x M => match x with
  | .t (.int i) => .ok (.t (.int (-i))) M
  | _ => .stuck
theorem kNeg_k0  (i : Int) (M : Ar) : kNeg  (.ok (.t (.int i)) M) = .ok (.t (.int (-i))) M := rfl
theorem xNeg (a : Ex) (r : En) (M : Ar) : evE P G (.neg a) r M = kNeg (evE P G a r M) := by first | (simp only [evS, evB, evE, evEs, evAnd, evOr, evO, evC, evSr, evT]; rfl) | simp only [evS, evB, evE, evEs, evAnd, evOr, evO, evC, evSr, evT]
def kCm2 (o : CmpK) (x0 : D) (x : Res D) : Res D := x.bind fun y M => cmpV o x0 y M
theorem kCm2_k0 (o : CmpK) (x0 : D) (y : D) (M : Ar) : kCm2 o x0 (.ok y M) = cmpV o x0 y M := rfl
def kCm1 (o : CmpK) (b : Ex) (r : En) (x : Res D) : Res D := x.bind fun x M => kCm2 o x (evE P G b r M)
theorem kCm1_k0 (o : CmpK) (b : Ex) (r : En) (d : D) (M : Ar) : kCm1 P G o b r (.ok d M) = kCm2 o d (evE P G b r M) := rfl
theorem xCmp (o : CmpK) (a b : Ex) (r : En) (M : Ar) : evE P G (.cmp o a b) r M = kCm1 P G o b r (evE P G a r M) := by first | (simp only [evS, evB, evE, evEs, evAnd, evOr, evO, evC, evSr, evT]; rfl) | simp only [evS, evB, evE, evEs, evAnd, evOr, evO, evC, evSr, evT]
def kIsN (yes : Bool) (x : Res D) : Res D := x.bind fun x M => .ok (.t (.bl (isNB yes x))) M
theorem kIsN_k0 (yes : Bool) (d : D) (M : Ar) : kIsN yes (.ok d M) = .ok (.t (.bl (isNB yes d))) M := rfl
theorem xIsN (yes : Bool) (a : Ex) (r : En) (M : Ar) : evE P G (.isN yes a) r M = kIsN yes (evE P G a r M) := by first | (simp only [evS, evB, evE, evEs, evAnd, evOr, evO, evC, evSr, evT]; rfl) | simp only [evS, evB, evE, evEs, evAnd, evOr, evO, evC, evSr, evT]
def kCh4 (o : CmpK) (y : D) (x : Res D) : Res D := x.bind fun u M => cmpV o y u M
theorem kCh4_k0 (o : CmpK) (y : D) (u : D) (M : Ar) : kCh4 o y (.ok u M) = cmpV o y u M := rfl
def kCh3 (o2 : CmpK) (c : Ex) (y : D) (r : En) (x : Res Bool) : Res D := x.bind fun k M => match k with
  | true => kCh4 o2 y (evE P G c r M)
  | false => .ok (.t (.bl false)) M
theorem kCh3_k0 (o2 : CmpK) (c : Ex) (y : D) (r : En) (M : Ar) : kCh3 P G o2 c y r (.ok true M) = kCh4 o2 y (evE P G c r M) := rfl
theorem kCh3_k1 (o2 : CmpK) (c : Ex) (y : D) (r : En) (M : Ar) : kCh3 P G o2 c y r (.ok false M) = .ok (.t (.bl false)) M := rfl
def kCh2 (o1 : CmpK) (o2 : CmpK) (c : Ex) (x0 : D) (r : En) (x : Res D) : Res D := x.bind fun y M => kCh3 P G o2 c y r (kTru (cmpV o1 x0 y M))
theorem kCh2_k0 (o1 : CmpK) (o2 : CmpK) (c : Ex) (x0 : D) (r : En) (y : D) (M : Ar) : kCh2 P G o1 o2 c x0 r (.ok y M) = kCh3 P G o2 c y r (kTru (cmpV o1 x0 y M)) := rfl
def kCh1 (o1 : CmpK) (o2 : CmpK) (b : Ex) (c : Ex) (r : En) (x : Res D) : Res D := x.bind fun x M => kCh2 P G o1 o2 c x r (evE P G b r M)
theorem kCh1_k0 (o1 : CmpK) (o2 : CmpK) (b : Ex) (c : Ex) (r : En) (d : D) (M : Ar) : kCh1 P G o1 o2 b c r (.ok d M) = kCh2 P G o1 o2 c d r (evE P G b r M) := rfl
theorem xChain (o1 o2 : CmpK) (a b c : Ex) (r : En) (M : Ar) : evE P G (.chain o1 o2 a b c) r M = kCh1 P G o1 o2 b c r (evE P G a r M) := by
  simp only [evE, evAnd, evOr, kCh1, kCh2, kCh3, kCh4, kTru, Res.bind_assoc]
  try rfl
theorem xAnd (es : List Ex) (r : En) (M : Ar) : evE P G (.and es) r M = evAnd P G es r M := by first | (simp only [evS, evB, evE, evEs, evAnd, evOr, evO, evC, evSr, evT]; rfl) | simp only [evS, evB, evE, evEs, evAnd, evOr, evO, evC, evSr, evT]
theorem xOr (es : List Ex) (r : En) (M : Ar) : evE P G (.or es) r M = evOr P G es r M := by first | (simp only [evS, evB, evE, evEs, evAnd, evOr, evO, evC, evSr, evT]; rfl) | simp only [evS, evB, evE, evEs, evAnd, evOr, evO, evC, evSr, evT]
def kAnd (es : List Ex) (r : En) (x : Res Bool) : Res D := x.bind fun k M => match k with
  | true => evAnd P G es r M
  | false => .ok (.t (.bl false)) M
theorem kAnd_k0 (es : List Ex) (r : En) (M : Ar) : kAnd P G es r (.ok true M) = evAnd P G es r M := rfl
theorem kAnd_k1 (es : List Ex) (r : En) (M : Ar) : kAnd P G es r (.ok false M) = .ok (.t (.bl false)) M := rfl
def kOr (es : List Ex) (r : En) (x : Res Bool) : Res D := x.bind fun k M => match k with
  | true => .ok (.t (.bl true)) M
  | false => evOr P G es r M
theorem kOr_k0 (es : List Ex) (r : En) (M : Ar) : kOr P G es r (.ok true M) = .ok (.t (.bl true)) M := rfl
theorem kOr_k1 (es : List Ex) (r : En) (M : Ar) : kOr P G es r (.ok false M) = evOr P G es r M := rfl
theorem xAnd1 (a : Ex) (r : En) (M : Ar) : evAnd P G [a] r M = evE P G a r M := by first | (simp only [evS, evB, evE, evEs, evAnd, evOr, evO, evC, evSr, evT]; rfl) | simp only [evS, evB, evE, evEs, evAnd, evOr, evO, evC, evSr, evT]
theorem xAnd2 (a b : Ex) (es : List Ex) (r : En) (M : Ar) : evAnd P G (a :: b :: es) r M = kAnd P G (b :: es) r (kTru (evE P G a r M)) := by
  simp only [evE, evAnd, evOr, kAnd, kTru, Res.bind_assoc]
  try rfl
theorem xOr1 (a : Ex) (r : En) (M : Ar) : evOr P G [a] r M = evE P G a r M := by first | (simp only [evS, evB, evE, evEs, evAnd, evOr, evO, evC, evSr, evT]; rfl) | simp only [evS, evB, evE, evEs, evAnd, evOr, evO, evC, evSr, evT]
theorem xOr2 (a b : Ex) (es : List Ex) (r : En) (M : Ar) : evOr P G (a :: b :: es) r M = kOr P G (b :: es) r (kTru (evE P G a r M)) := by
  simp only [evE, evAnd, evOr, kOr, kTru, Res.bind_assoc]
  try rfl
def kNot  (x : Res Bool) : Res D := x.bind fun k M => .ok (.t (.bl (!k))) M
theorem kNot_k0  (k : Bool) (M : Ar) : kNot  (.ok k M) = .ok (.t (.bl (!k))) M := rfl
theorem xNot (a : Ex) (r : En) (M : Ar) : evE P G (.not a) r M = kNot (kTru (evE P G a r M)) := by
  simp only [evE, evAnd, evOr, kNot, kTru, Res.bind_assoc]
  try rfl
def kIfe (a : Ex) (b : Ex) (r : En) (x : Res Bool) : Res D := x.bind fun k M => match k with
  | true => evE P G a r M
  | false => evE P G b r M
theorem kIfe_k0 (a : Ex) (b : Ex) (r : En) (M : Ar) : kIfe P G a b r (.ok true M) = evE P G a r M := rfl
theorem kIfe_k1 (a : Ex) (b : Ex) (r : En) (M : Ar) : kIfe P G a b r (.ok false M) = evE P G b r M := rfl
theorem xIfe (c a b : Ex) (r : En) (M : Ar) : evE P G (.ife c a b) r M = kIfe P G a b r (kTru (evE P G c r M)) := by first | (simp only [evS, evB, evE, evEs, evAnd, evOr, evO, evC, evSr, evT]; rfl) | simp only [evS, evB, evE, evEs, evAnd, evOr, evO, evC, evSr, evT]
def kLst (mu : Bool) (x : Res (List D)) : Res D := x.bind fun ds M => mkLn mu ds M
theorem kLst_k0 (mu : Bool) (ds : List D) (M : Ar) : kLst mu (.ok ds M) = mkLn mu ds M := rfl
theorem xLst (mu : Bool) (es : List Ex) (r : En) (M : Ar) : evE P G (.list mu es) r M = kLst mu (evEs P G es r M) := by first | (simp only [evS, evB, evE, evEs, evAnd, evOr, evO, evC, evSr, evT]; rfl) | simp only [evS, evB, evE, evEs, evAnd, evOr, evO, evC, evSr, evT]
def kTup  (x : Res (List D)) : Res D := x.bind fun ds M => okIf (decide (ds.length ≤ line)) (.ok (frzT ds) M)
theorem kTup_k0  (ds : List D) (M : Ar) : kTup  (.ok ds M) = okIf (decide (ds.length ≤ line)) (.ok (frzT ds) M) := rfl
theorem xTup (es : List Ex) (r : En) (M : Ar) : evE P G (.tuple es) r M = kTup (evEs P G es r M) := by first | (simp only [evS, evB, evE, evEs, evAnd, evOr, evO, evC, evSr, evT]; rfl) | simp only [evS, evB, evE, evEs, evAnd, evOr, evO, evC, evSr, evT]
def kIx2 (x0 : D) (x : Res D) : Res D := x.bind fun y M => idxV x0 y M
theorem kIx2_k0 (x0 : D) (y : D) (M : Ar) : kIx2 x0 (.ok y M) = idxV x0 y M := rfl
def kIx1 (i : Ex) (r : En) (x : Res D) : Res D := x.bind fun x M => kIx2 x (evE P G i r M)
theorem kIx1_k0 (i : Ex) (r : En) (d : D) (M : Ar) : kIx1 P G i r (.ok d M) = kIx2 d (evE P G i r M) := rfl
theorem xIdx (a i : Ex) (r : En) (M : Ar) : evE P G (.idx a i) r M = kIx1 P G i r (evE P G a r M) := by first | (simp only [evS, evB, evE, evEs, evAnd, evOr, evO, evC, evSr, evT]; rfl) | simp only [evS, evB, evE, evEs, evAnd, evOr, evO, evC, evSr, evT]
def kSl3 (mu : Bool) (x0 : D) (lo : Option Int) (x : Res (Option Int)) : Res D := x.bind fun hi M => slcV mu x0 lo hi M
theorem kSl3_k0 (mu : Bool) (x0 : D) (lo : Option Int) (hi : Option Int) (M : Ar) : kSl3 mu x0 lo (.ok hi M) = slcV mu x0 lo hi M := rfl
def kSl2 (mu : Bool) (x0 : D) (hi : Option Ex) (r : En) (x : Res (Option Int)) : Res D := x.bind fun lo M => kSl3 mu x0 lo (evO P G hi r M)
theorem kSl2_k0 (mu : Bool) (x0 : D) (hi : Option Ex) (r : En) (lo : Option Int) (M : Ar) : kSl2 P G mu x0 hi r (.ok lo M) = kSl3 mu x0 lo (evO P G hi r M) := rfl
def kSl1 (mu : Bool) (lo : Option Ex) (hi : Option Ex) (r : En) (x : Res D) : Res D := x.bind fun x M => kSl2 P G mu x hi r (evO P G lo r M)
theorem kSl1_k0 (mu : Bool) (lo : Option Ex) (hi : Option Ex) (r : En) (d : D) (M : Ar) : kSl1 P G mu lo hi r (.ok d M) = kSl2 P G mu d hi r (evO P G lo r M) := rfl
theorem xSlc (mu : Bool) (a : Ex) (lo hi : Option Ex) (r : En) (M : Ar) : evE P G (.slc mu a lo hi) r M = kSl1 P G mu lo hi r (evE P G a r M) := by first | (simp only [evS, evB, evE, evEs, evAnd, evOr, evO, evC, evSr, evT]; rfl) | simp only [evS, evB, evE, evEs, evAnd, evOr, evO, evC, evSr, evT]
def kOI  (x : Res D) : Res (Option Int) := x.bind fun x M => match x with
  | .t (.int i) => .ok (some i) M
  | _ => .stuck
theorem kOI_k0  (i : Int) (M : Ar) : kOI  (.ok (.t (.int i)) M) = .ok (some i) M := rfl
theorem xO0 (r : En) (M : Ar) : evO P G none r M = .ok none M := by first | (simp only [evS, evB, evE, evEs, evAnd, evOr, evO, evC, evSr, evT]; rfl) | simp only [evS, evB, evE, evEs, evAnd, evOr, evO, evC, evSr, evT]
theorem xO1 (e : Ex) (r : En) (M : Ar) : evO P G (some e) r M = kOI (evE P G e r M) := by first | (simp only [evS, evB, evE, evEs, evAnd, evOr, evO, evC, evSr, evT]; rfl) | simp only [evS, evB, evE, evEs, evAnd, evOr, evO, evC, evSr, evT]
def kBf (f : BiK) (x : Res (List D)) : Res D := x.bind fun ds M => biV f ds M
theorem kBf_k0 (f : BiK) (ds : List D) (M : Ar) : kBf f (.ok ds M) = biV f ds M := rfl
theorem xBi (f : BiK) (es : List Ex) (r : En) (M : Ar) : evE P G (.bi f es) r M = kBf f (evEs P G es r M) := by first | (simp only [evS, evB, evE, evEs, evAnd, evOr, evO, evC, evSr, evT]; rfl) | simp only [evS, evB, evE, evEs, evAnd, evOr, evO, evC, evSr, evT]
def kMe2 (m : MeK) (x0 : D) (x : Res (List D)) : Res D := x.bind fun ds M => meV m x0 ds M
theorem kMe2_k0 (m : MeK) (x0 : D) (ds : List D) (M : Ar) : kMe2 m x0 (.ok ds M) = meV m x0 ds M := rfl
def kMe1 (m : MeK) (es : List Ex) (r : En) (x : Res D) : Res D := x.bind fun x M => okIf (isLst M x) (kMe2 m x (evEs P G es r M))
theorem kMe1_k0 (m : MeK) (es : List Ex) (r : En) (d : D) (M : Ar) : kMe1 P G m es r (.ok d M) = okIf (isLst M d) (kMe2 m d (evEs P G es r M)) := rfl
theorem xMe (m : MeK) (o : Ex) (es : List Ex) (r : En) (M : Ar) : evE P G (.me m o es) r M = kMe1 P G m es r (evE P G o r M) := by first | (simp only [evS, evB, evE, evEs, evAnd, evOr, evO, evC, evSr, evT]; rfl) | simp only [evS, evB, evE, evEs, evAnd, evOr, evO, evC, evSr, evT]
def kCal (m : Md) (f : Nat) (x : Res (List D)) : Res D := x.bind fun ds M => callV G m f ds M
theorem kCal_k0 (m : Md) (f : Nat) (ds : List D) (M : Ar) : kCal G m f (.ok ds M) = callV G m f ds M := rfl
theorem xCall (m : Md) (f : Nat) (es : List Ex) (r : En) (M : Ar) : evE P G (.call m f es) r M = kCal G m f (evEs P G es r M) := by first | (simp only [evS, evB, evE, evEs, evAnd, evOr, evO, evC, evSr, evT]; rfl) | simp only [evS, evB, evE, evEs, evAnd, evOr, evO, evC, evSr, evT]
def kMt2 (f : Nat) (x0 : D) (x : Res (List D)) : Res D := x.bind fun ds M => G f (x0 :: ds) M
theorem kMt2_k0 (f : Nat) (x0 : D) (ds : List D) (M : Ar) : kMt2 G f x0 (.ok ds M) = G f (x0 :: ds) M := rfl
def kMt1 (c : Nat) (m : Str) (f : Nat) (es : List Ex) (r : En) (x : Res D) : Res D := x.bind fun x M => okIf (methB M c m x) (kMt2 G f x (evEs P G es r M))
theorem kMt1_k0 (c : Nat) (m : Str) (f : Nat) (es : List Ex) (r : En) (d : D) (M : Ar) : kMt1 P G c m f es r (.ok d M) = okIf (methB M c m d) (kMt2 G f d (evEs P G es r M)) := rfl
theorem xMeth (c : Nat) (m : Str) (f : Nat) (o : Ex) (es : List Ex) (r : En) (M : Ar) : evE P G (.meth c m f o es) r M = kMt1 P G c m f es r (evE P G o r M) := by first | (simp only [evS, evB, evE, evEs, evAnd, evOr, evO, evC, evSr, evT]; rfl) | simp only [evS, evB, evE, evEs, evAnd, evOr, evO, evC, evSr, evT]
def kMk2 (i : Nat) (x : Res D) : Res D := x.bind fun d M1 => match d with
  | .t .non => .ok (.ref i) M1
  | _ => .stuck
theorem kMk2_k0 (i : Nat) (M : Ar) : kMk2 i (.ok (.t .non) M) = .ok (.ref i) M := rfl
def kMk1 (c : Nat) (f : Nat) (x : Res (List D)) : Res D := x.bind fun ds M => kMk2 M.length (G f (.ref M.length :: ds) (M ++ [.obj c []]))
theorem kMk1_k0 (c : Nat) (f : Nat) (ds : List D) (M : Ar) : kMk1 G c f (.ok ds M) = kMk2 M.length (G f (.ref M.length :: ds) (M ++ [.obj c []])) := rfl
theorem xMake (c f : Nat) (es : List Ex) (r : En) (M : Ar) : evE P G (.make c f es) r M = kMk1 G c f (evEs P G es r M) := by first | (simp only [evS, evB, evE, evEs, evAnd, evOr, evO, evC, evSr, evT]; rfl) | simp only [evS, evB, evE, evEs, evAnd, evOr, evO, evC, evSr, evT]
def kAt (c : Nat) (f : Str) (x : Res D) : Res D := x.bind fun x M => attrV c x f M
theorem kAt_k0 (c : Nat) (f : Str) (d : D) (M : Ar) : kAt c f (.ok d M) = attrV c d f M := rfl
theorem xAttr (c : Nat) (o : Ex) (f : Str) (r : En) (M : Ar) : evE P G (.attr c o f) r M = kAt c f (evE P G o r M) := by first | (simp only [evS, evB, evE, evEs, evAnd, evOr, evO, evC, evSr, evT]; rfl) | simp only [evS, evB, evE, evEs, evAnd, evOr, evO, evC, evSr, evT]
def kPi2 (ks : List Str) (ds : List D) (x : Res D) : Res D := x.bind fun y M => pickV ks ds y M
theorem kPi2_k0 (ks : List Str) (ds : List D) (y : D) (M : Ar) : kPi2 ks ds (.ok y M) = pickV ks ds y M := rfl
def kPi1 (ks : List Str) (i : Ex) (r : En) (x : Res (List D)) : Res D := x.bind fun ds M => kPi2 ks ds (evE P G i r M)
theorem kPi1_k0 (ks : List Str) (i : Ex) (r : En) (ds : List D) (M : Ar) : kPi1 P G ks i r (.ok ds M) = kPi2 ks ds (evE P G i r M) := rfl
theorem xPick (ks : List Str) (es : List Ex) (i : Ex) (r : En) (M : Ar) : evE P G (.pick ks es i) r M = kPi1 P G ks i r (evEs P G es r M) := by first | (simp only [evS, evB, evE, evEs, evAnd, evOr, evO, evC, evSr, evT]; rfl) | simp only [evS, evB, evE, evEs, evAnd, evOr, evO, evC, evSr, evT]
def kEs2 (d : D) (x : Res (List D)) : Res (List D) := x.bind fun ds M => .ok (d :: ds) M
theorem kEs2_k0 (d : D) (ds : List D) (M : Ar) : kEs2 d (.ok ds M) = .ok (d :: ds) M := rfl
def kEs1 (es : List Ex) (r : En) (x : Res D) : Res (List D) := x.bind fun d M => kEs2 d (evEs P G es r M)
theorem kEs1_k0 (es : List Ex) (r : En) (d : D) (M : Ar) : kEs1 P G es r (.ok d M) = kEs2 d (evEs P G es r M) := rfl
theorem xEs0 (r : En) (M : Ar) : evEs P G [] r M = .ok [] M := by first | (simp only [evS, evB, evE, evEs, evAnd, evOr, evO, evC, evSr, evT]; rfl) | simp only [evS, evB, evE, evEs, evAnd, evOr, evO, evC, evSr, evT]
theorem xEs1 (e : Ex) (es : List Ex) (r : En) (M : Ar) : evEs P G (e :: es) r M = kEs1 P G es r (evE P G e r M) := by first | (simp only [evS, evB, evE, evEs, evAnd, evOr, evO, evC, evSr, evT]; rfl) | simp only [evS, evB, evE, evEs, evAnd, evOr, evO, evC, evSr, evT]
theorem xC0 (r : En) (M : Ar) : evC P G none r M = .ok true M := by first | (simp only [evS, evB, evE, evEs, evAnd, evOr, evO, evC, evSr, evT]; rfl) | simp only [evS, evB, evE, evEs, evAnd, evOr, evO, evC, evSr, evT]
theorem xC1 (e : Ex) (r : En) (M : Ar) : evC P G (some e) r M = kTru (evE P G e r M) := by first | (simp only [evS, evB, evE, evEs, evAnd, evOr, evO, evC, evSr, evT]; rfl) | simp only [evS, evB, evE, evEs, evAnd, evOr, evO, evC, evSr, evT]
def kSq  (x : Res D) : Res Itm := x.bind srSeq
theorem kSq_k0  (d : D) (M : Ar) : kSq  (.ok d M) = srSeq d M := rfl
def kRg  (x : Res (List D)) : Res Itm := x.bind srRng
theorem kRg_k0  (ds : List D) (M : Ar) : kRg  (.ok ds M) = srRng ds M := rfl
def kEu  (x : Res D) : Res Itm := x.bind srEnu
theorem kEu_k0  (d : D) (M : Ar) : kEu  (.ok d M) = srEnu d M := rfl
theorem xSq (e : Ex) (r : En) (M : Ar) : evSr P G (.seq e) r M = kSq (evE P G e r M) := by first | (simp only [evS, evB, evE, evEs, evAnd, evOr, evO, evC, evSr, evT]; rfl) | simp only [evS, evB, evE, evEs, evAnd, evOr, evO, evC, evSr, evT]
theorem xRg (es : List Ex) (r : En) (M : Ar) : evSr P G (.rng es) r M = kRg (evEs P G es r M) := by first | (simp only [evS, evB, evE, evEs, evAnd, evOr, evO, evC, evSr, evT]; rfl) | simp only [evS, evB, evE, evEs, evAnd, evOr, evO, evC, evSr, evT]
theorem xEu (e : Ex) (r : En) (M : Ar) : evSr P G (.enu e) r M = kEu (evE P G e r M) := by first | (simp only [evS, evB, evE, evEs, evAnd, evOr, evO, evC, evSr, evT]; rfl) | simp only [evS, evB, evE, evEs, evAnd, evOr, evO, evC, evSr, evT]
def kCo3 (mu : Bool) (x : Res (List D)) : Res D := x.bind fun l M => mkL mu l M
theorem kCo3_k0 (mu : Bool) (l : List D) (M : Ar) : kCo3 mu (.ok l M) = mkL mu l M := rfl
def kCo2 (mu : Bool) (tg : Tg) (c : Option Ex) (e : Ex) (r : En) (x : Res Itm) : Res D := x.bind fun I M => kCo3 mu (cmpItm (cmpBody P G tg c e r) I M)
theorem kCo2_k0 (mu : Bool) (tg : Tg) (c : Option Ex) (e : Ex) (r : En) (I : Itm) (M : Ar) : kCo2 P G mu tg c e r (.ok I M) = kCo3 mu (cmpItm (cmpBody P G tg c e r) I M) := rfl
theorem xComp (mu : Bool) (tg : Tg) (s : Sr) (c : Option Ex) (e : Ex) (r : En) (M : Ar) : evE P G (.comp mu tg s c e) r M = kCo2 P G mu tg c e r (evSr P G s r M) := by
  simp only [evE]
  rfl
def kB2 (x : Res D) : Res (Option D) := x.bind fun x M => .ok (some x) M
theorem kB2_k0 (x : D) (M : Ar) : kB2 (.ok x M) = .ok (some x) M := rfl
def kB1 (e : Ex) (r : En) (x : Res Bool) : Res (Option D) := x.bind fun k M => match k with
  | true => kB2 (evE P G e r M)
  | false => .ok none M
theorem kB1_k0 (e : Ex) (r : En) (M : Ar) : kB1 P G e r (.ok true M) = kB2 (evE P G e r M) := rfl
theorem kB1_k1 (e : Ex) (r : En) (M : Ar) : kB1 P G e r (.ok false M) = .ok none M := rfl
theorem xCb (tg : Tg) (c : Option Ex) (e : Ex) (r : En) (d : D) (M : Ar) : cmpBody P G tg c e r d M = noExc (match asg tg d M (wipeE r tg.slots) with
    | none => .stuck
    | some r' => kB1 P G e r' (evC P G c r' M)) := rfl
theorem noExc_k0 {α : Type} (a : α) (M : Ar) : noExc (.ok a M) = .ok a M := rfl
def kCF (b : D → Ar → Res (Option D)) (l acc : List D) (x : Res (Option D)) : Res (List D) := x.bind fun o M => match o with
  | none => cmpF b l acc M
  | some x => okIf (decide (acc.length < line)) (cmpF b l (acc ++ [x]) M)
theorem kCF_k0 (b : D → Ar → Res (Option D)) (l acc : List D) (M : Ar) : kCF b l acc (.ok none M) = cmpF b l acc M := rfl
theorem kCF_k1 (b : D → Ar → Res (Option D)) (l acc : List D) (x : D) (M : Ar) : kCF b l acc (.ok (some x) M) = okIf (decide (acc.length < line)) (cmpF b l (acc ++ [x]) M) := rfl
theorem xCF0 (b : D → Ar → Res (Option D)) (acc : List D) (M : Ar) : cmpF b [] acc M = .ok acc M := rfl
theorem xCF1 (b : D → Ar → Res (Option D)) (d : D) (l acc : List D) (M : Ar) : cmpF b (d :: l) acc M = kCF b l acc (b d M) := rfl
theorem xCI (b : D → Ar → Res (Option D)) (l : List D) (M : Ar) : cmpItm b (.fix l) M = cmpF b l [] M := rfl
def kFn (x : Res Fl) : Res D := x.bind fun f M => match f with
  | .nx _ => .ok (.t .non) M
  | .rt d => .ok d M
theorem kFn_k0 (r : En) (M : Ar) : kFn (.ok (.nx r) M) = .ok (.t .non) M := rfl
theorem kFn_k1 (d : D) (M : Ar) : kFn (.ok (.rt d) M) = .ok d M := rfl
theorem xFn (fn : Fn) (ds : List D) (M : Ar) (h : ds.length = fn.np) : fnV P G fn ds M = kFn (evB P G fn.body (ds.map some ++ List.replicate (fn.names.length - ds.length) none) M) := by
  unfold fnV
  rw [decide_eq_true h]
  rfl
end
end Rw
end

section
set_option Elab.async false
set_option linter.all false
set_option maxRecDepth 100000
set_option maxHeartbeats 0
/-! k02: the law's own run -/
namespace Rw.K02
open PySem
variable {k : Nat} {ws : List Int} {s : Mc}
theorem eq_tl_nil (M : Ar) (l : List Int) (k : Bool → Bool) : eqV2 M (.t (tl l)) (.t (.lst [])) k = .ok (.t (.bl (k (decide (l = []))))) M := eq_tl M l [] k
theorem cut_last (l : List Int) : cut l none (some (-1)) = l.dropLast := by
  unfold cut
  have e2 : HT.sIx l.length l.length (some (-1)) = l.length - 1 := by
    show (if (-1 : Int) < 0 then ((-1 : Int) + (l.length : Int)).toNat else min (-1 : Int).toNat l.length) = _
    rw [if_pos (by decide)]; omega
  rw [e2, HT.sIx_none, List.drop_zero, Nat.sub_zero, List.dropLast_eq_take]
theorem eq_nil2 (M : Ar) (k : Bool → Bool) : eqV2 M (.t (.lst [])) (.t (.lst [])) k = .ok (.t (.bl (k true))) M := eq_tl M [] [] k
theorem atm0 {α : Type} (x : α) : L2.atI [x] (-1) = some x := rfl
theorem cutA {α : Type} (x y : α) : cut [x, y] none (some 2) = [x, y] := rfl
theorem cutB {α : Type} : cut ([] : List α) none (some (-1)) = [] := rfl
theorem atm1 {cl : List Int} (p : Int) (h : cl ≠ []) : L2.atI (D.t (.int p) :: List.map (D.t ∘ T.int) cl) (-1) = some (.t (.int (cl.getLastD 0))) := by
  have hl : 0 < cl.length := List.length_pos_iff.mpr h
  unfold L2.atI L2.ixN
  rw [if_neg (by decide), if_pos (by simp; omega)]
  show (D.t (.int p) :: List.map (D.t ∘ T.int) cl)[((-1 : Int) + ((D.t (.int p) :: List.map (D.t ∘ T.int) cl).length : Nat)).toNat]? = _
  have e : ((-1 : Int) + ((D.t (.int p) :: List.map (D.t ∘ T.int) cl).length : Nat)).toNat = (cl.length - 1) + 1 := by simp; omega
  rw [e, List.getElem?_cons_succ, List.getElem?_map]
  have hl' : cl.length - 1 < cl.length := by omega
  rw [List.getElem?_eq_getElem hl', List.getLastD_eq_getLast?, List.getLast?_eq_getElem?, List.getElem?_eq_getElem hl']
  rfl
def iT (l : List Int) (i : Nat) : Int := (l ++ [0, 0]).getD i 0
def rE (ws : List Int) (b most : Int) (s : Mc) (o : Op) (pl : Int) (cl : List Int) (why : String) (x : Option D) : En := [some (.t (tl ws)), some (.t (.int b)), some (.t (.int most)), some (.ref 0), some (.ref 1), some (.t (.int pl)), some (.t (tl cl)), some (.ref 2), some (.ref 3), some (.t (.str (Str.ofString why))),
  some (.t (rT (some o.row))), some (.t (.str (Str.ofString o.row.1))), some (.t (tl o.row.2.1)), some (.t (tl o.row.2.2.1)), some (.t (.int o.row.2.2.2)), some (.t (.int (s.place + o.row.2.2.2))), some (.t (.int (iT o.row.2.2.1 0))), some (.t (.int (at_ s.boxes (iT o.row.2.1 0)))), some (.t (.int (at_ s.boxes (iT o.row.2.1 1)))), x]
def rM (s : Mc) : Ar := [.lst (il s.cells), .lst (il s.boxes), .lst (il s.says), .lst (il s.past)]
def rI (ws : List Int) (b most : Int) (pl : Int) (cl : List Int) (why : String) (x0 x1 x2 x3 x4 x5 x6 x7 x8 x9 : Option D) : En := [some (.t (tl ws)), some (.t (.int b)), some (.t (.int most)), some (.ref 0), some (.ref 1), some (.t (.int pl)), some (.t (tl cl)), some (.ref 2), some (.ref 3), some (.t (.str (Str.ofString why))), x0, x1, x2, x3, x4, x5, x6, x7, x8, x9]
theorem runs_do (o : Op) (hg : o.good) (ok : s.ok) (hp : s.past.length < 1000) (hy : s.why = "") (hrow : rowF ws s.place = some o.row) (hw : Ws ws) {b most : Int} {x0 x1 x2 x3 x4 x5 x6 x7 x8 x9 : Option D} :
    ∃ pl cl, evB pg (run pg fns (k + 2)) f__law_runs_B0 (rI ws b most s.place s.calls "" x0 x1 x2 x3 x4 x5 x6 x7 x8 x9) (rM s) = .ok (.nx (rE ws b most s o pl cl (o.do { s with past := s.past ++ [s.place] }).why x9)) (rM (o.do { s with past := s.past ++ [s.place] })) ∧
      ((o.do { s with past := s.past ++ [s.place] }).why = "" → pl = (o.do { s with past := s.past ++ [s.place] }).place ∧ cl = (o.do { s with past := s.past ++ [s.place] }).calls) := by
  have hr := read_ok k (p := s.place) hw
  rw [hrow] at hr
  have hc := ok.c
  have hb := ok.b
  have hl : s.past.length < 16777216 := by omega
  have hl2 : s.says.length < 16777216 := by have := ok.y; omega
  have hl3 : s.calls.length + 1 ≤ 16777216 := by have := ok.l; omega
  have z0 : L2.atI (il s.boxes) 0 = some (.t (.int (at_ s.boxes 0))) := at_il hb (by decide) (by decide)
  cases o with
  | take b n =>
    have zb := bo_il hb hg.1
    have zi := bo_ix hg.1
    simp -implicitDefEqProofs [Op.row, rT, kSeq_k0, kSeq_k1, xB0, xB1, kAsg_k0, xAsg, kNx_k0, kNxD_k0, kFl2_k0, kFl1_k0, xFld, kSu3_k0, kSu2_k0, kSu1_k0, xSub, xExpr, xRetN, kRet_k0, xRet, kIte_k0, kIte_k1, xIte, kTru_k0, xT, xVar, xCon, xGlo, kBi2_k0, kBi1_k0, xBin, kNeg_k0, xNeg, kCm2_k0, kCm1_k0, xCmp, kIsN_k0, xIsN, kCh4_k0, kCh3_k0, kCh3_k1, kCh2_k0, kCh1_k0, xChain, xAnd, xOr, kAnd_k0, kAnd_k1, kOr_k0, kOr_k1, xAnd1, xAnd2, xOr1, xOr2, kNot_k0, xNot, kIfe_k0, kIfe_k1, xIfe, kLst_k0, xLst, kTup_k0, xTup, kIx2_k0, kIx1_k0, xIdx, kSl3_k0, kSl2_k0, kSl1_k0, xSlc, kOI_k0, xO0, xO1, kBf_k0, xBi, kMe2_k0, kMe1_k0, xMe, kCal_k0, xCall, kMt2_k0, kMt1_k0, xMeth, kMk2_k0, kMk1_k0, xMake, kAt_k0, xAttr, kPi2_k0, kPi1_k0, xPick, kEs2_k0, kEs1_k0, xEs0, xEs1, xC0, xC1, kSq_k0, kRg_k0, kEu_k0, xSq, xRg, xEu, kFn_k0, kFn_k1, kCo3_k0, kCo2_k0, xComp, kB2_k0, kB1_k0, kB1_k1, xCb, noExc_k0, kCF_k0, kCF_k1, xCF0, xCF1, xCI, xFn, okIf, idxV, sqOf, cmpV, cmpN, cmpI, truV, binV, asg, asgs, subV, mkL, mkLn, frzL, frzT, allT, isNB, at0, at1, at2, at3, L2.ixN, biV, eq_int, eq_str, line, lsOf_tl, tpOf_tl, scOf_tl, snap_t, allT_il, tl_fold, tl0, tl1, tl2, il0, il1, il2, il_len, lsO_non, tpO_non, scO_non, lsO_bl, tpO_bl, scO_bl, lsO_int, tpO_int, scO_int, lsO_str, tpO_str, scO_str, lsO_tup, tpO_tup, scO_tup, lsO_lst, tpO_lst, scO_lst, lsO_scr, tpO_scr, scO_scr, lsO_ref, tpO_ref, scO_ref, lsO_Dt, tpO_Dt, scO_Dt, lsO_Dl, tpO_Dl, scO_Dl] at hr
    refine ⟨s.place + 1, s.calls, ?_, fun _ => ⟨rfl, rfl⟩⟩
    simp -implicitDefEqProofs [kSeq_k0, kSeq_k1, xB0, xB1, kAsg_k0, xAsg, kNx_k0, kNxD_k0, kFl2_k0, kFl1_k0, xFld, kSu3_k0, kSu2_k0, kSu1_k0, xSub, xExpr, xRetN, kRet_k0, xRet, kIte_k0, kIte_k1, xIte, kTru_k0, xT, xVar, xCon, xGlo, kBi2_k0, kBi1_k0, xBin, kNeg_k0, xNeg, kCm2_k0, kCm1_k0, xCmp, kIsN_k0, xIsN, kCh4_k0, kCh3_k0, kCh3_k1, kCh2_k0, kCh1_k0, xChain, xAnd, xOr, kAnd_k0, kAnd_k1, kOr_k0, kOr_k1, xAnd1, xAnd2, xOr1, xOr2, kNot_k0, xNot, kIfe_k0, kIfe_k1, xIfe, kLst_k0, xLst, kTup_k0, xTup, kIx2_k0, kIx1_k0, xIdx, kSl3_k0, kSl2_k0, kSl1_k0, xSlc, kOI_k0, xO0, xO1, kBf_k0, xBi, kMe2_k0, kMe1_k0, xMe, kCal_k0, xCall, kMt2_k0, kMt1_k0, xMeth, kMk2_k0, kMk1_k0, xMake, kAt_k0, xAttr, kPi2_k0, kPi1_k0, xPick, kEs2_k0, kEs1_k0, xEs0, xEs1, xC0, xC1, kSq_k0, kRg_k0, kEu_k0, xSq, xRg, xEu, kFn_k0, kFn_k1, kCo3_k0, kCo2_k0, xComp, kB2_k0, kB1_k0, kB1_k1, xCb, noExc_k0, kCF_k0, kCF_k1, xCF0, xCF1, xCI, xFn, okIf, idxV, sqOf, cmpV, cmpN, cmpI, truV, binV, asg, asgs, subV, mkL, mkLn, frzL, frzT, allT, isNB, at0, at1, at2, at3, L2.ixN, biV, eq_int, eq_str, line, lsOf_tl, tpOf_tl, scOf_tl, snap_t, allT_il, tl_fold, tl0, tl1, tl2, il0, il1, il2, il_len, lsO_non, tpO_non, scO_non, lsO_bl, tpO_bl, scO_bl, lsO_int, tpO_int, scO_int, lsO_str, tpO_str, scO_str, lsO_tup, tpO_tup, scO_tup, lsO_lst, tpO_lst, scO_lst, lsO_scr, tpO_scr, scO_scr, lsO_ref, tpO_ref, scO_ref, lsO_Dt, tpO_Dt, scO_Dt, lsO_Dl, tpO_Dl, scO_Dl, objOf, attrV, fldV, setO, putD, methB, meV, isLst, callV, pickV, inV2, scV, mapO, L2.inV, L2.eqV, List.lookup, beq_ofString, ofString_inj, line, f__law_runs_B0, f__law_runs_C0, rI, rM, rE, Op.row, Op.do, rT, hr, iT, hy, hb, hc, hl, slcV, cut, HT.sIx, srSeq, wipeE, Tg.slots, il_snoc, z0, il_set, -L2.ixN, zb, zi]
  | takeB b n =>
    have zb := bo_il hb hg.1
    have zi := bo_ix hg.1
    simp -implicitDefEqProofs [Op.row, rT, kSeq_k0, kSeq_k1, xB0, xB1, kAsg_k0, xAsg, kNx_k0, kNxD_k0, kFl2_k0, kFl1_k0, xFld, kSu3_k0, kSu2_k0, kSu1_k0, xSub, xExpr, xRetN, kRet_k0, xRet, kIte_k0, kIte_k1, xIte, kTru_k0, xT, xVar, xCon, xGlo, kBi2_k0, kBi1_k0, xBin, kNeg_k0, xNeg, kCm2_k0, kCm1_k0, xCmp, kIsN_k0, xIsN, kCh4_k0, kCh3_k0, kCh3_k1, kCh2_k0, kCh1_k0, xChain, xAnd, xOr, kAnd_k0, kAnd_k1, kOr_k0, kOr_k1, xAnd1, xAnd2, xOr1, xOr2, kNot_k0, xNot, kIfe_k0, kIfe_k1, xIfe, kLst_k0, xLst, kTup_k0, xTup, kIx2_k0, kIx1_k0, xIdx, kSl3_k0, kSl2_k0, kSl1_k0, xSlc, kOI_k0, xO0, xO1, kBf_k0, xBi, kMe2_k0, kMe1_k0, xMe, kCal_k0, xCall, kMt2_k0, kMt1_k0, xMeth, kMk2_k0, kMk1_k0, xMake, kAt_k0, xAttr, kPi2_k0, kPi1_k0, xPick, kEs2_k0, kEs1_k0, xEs0, xEs1, xC0, xC1, kSq_k0, kRg_k0, kEu_k0, xSq, xRg, xEu, kFn_k0, kFn_k1, kCo3_k0, kCo2_k0, xComp, kB2_k0, kB1_k0, kB1_k1, xCb, noExc_k0, kCF_k0, kCF_k1, xCF0, xCF1, xCI, xFn, okIf, idxV, sqOf, cmpV, cmpN, cmpI, truV, binV, asg, asgs, subV, mkL, mkLn, frzL, frzT, allT, isNB, at0, at1, at2, at3, L2.ixN, biV, eq_int, eq_str, line, lsOf_tl, tpOf_tl, scOf_tl, snap_t, allT_il, tl_fold, tl0, tl1, tl2, il0, il1, il2, il_len, lsO_non, tpO_non, scO_non, lsO_bl, tpO_bl, scO_bl, lsO_int, tpO_int, scO_int, lsO_str, tpO_str, scO_str, lsO_tup, tpO_tup, scO_tup, lsO_lst, tpO_lst, scO_lst, lsO_scr, tpO_scr, scO_scr, lsO_ref, tpO_ref, scO_ref, lsO_Dt, tpO_Dt, scO_Dt, lsO_Dl, tpO_Dl, scO_Dl] at hr
    refine ⟨s.place + 2, s.calls, ?_, fun _ => ⟨rfl, rfl⟩⟩
    simp -implicitDefEqProofs [kSeq_k0, kSeq_k1, xB0, xB1, kAsg_k0, xAsg, kNx_k0, kNxD_k0, kFl2_k0, kFl1_k0, xFld, kSu3_k0, kSu2_k0, kSu1_k0, xSub, xExpr, xRetN, kRet_k0, xRet, kIte_k0, kIte_k1, xIte, kTru_k0, xT, xVar, xCon, xGlo, kBi2_k0, kBi1_k0, xBin, kNeg_k0, xNeg, kCm2_k0, kCm1_k0, xCmp, kIsN_k0, xIsN, kCh4_k0, kCh3_k0, kCh3_k1, kCh2_k0, kCh1_k0, xChain, xAnd, xOr, kAnd_k0, kAnd_k1, kOr_k0, kOr_k1, xAnd1, xAnd2, xOr1, xOr2, kNot_k0, xNot, kIfe_k0, kIfe_k1, xIfe, kLst_k0, xLst, kTup_k0, xTup, kIx2_k0, kIx1_k0, xIdx, kSl3_k0, kSl2_k0, kSl1_k0, xSlc, kOI_k0, xO0, xO1, kBf_k0, xBi, kMe2_k0, kMe1_k0, xMe, kCal_k0, xCall, kMt2_k0, kMt1_k0, xMeth, kMk2_k0, kMk1_k0, xMake, kAt_k0, xAttr, kPi2_k0, kPi1_k0, xPick, kEs2_k0, kEs1_k0, xEs0, xEs1, xC0, xC1, kSq_k0, kRg_k0, kEu_k0, xSq, xRg, xEu, kFn_k0, kFn_k1, kCo3_k0, kCo2_k0, xComp, kB2_k0, kB1_k0, kB1_k1, xCb, noExc_k0, kCF_k0, kCF_k1, xCF0, xCF1, xCI, xFn, okIf, idxV, sqOf, cmpV, cmpN, cmpI, truV, binV, asg, asgs, subV, mkL, mkLn, frzL, frzT, allT, isNB, at0, at1, at2, at3, L2.ixN, biV, eq_int, eq_str, line, lsOf_tl, tpOf_tl, scOf_tl, snap_t, allT_il, tl_fold, tl0, tl1, tl2, il0, il1, il2, il_len, lsO_non, tpO_non, scO_non, lsO_bl, tpO_bl, scO_bl, lsO_int, tpO_int, scO_int, lsO_str, tpO_str, scO_str, lsO_tup, tpO_tup, scO_tup, lsO_lst, tpO_lst, scO_lst, lsO_scr, tpO_scr, scO_scr, lsO_ref, tpO_ref, scO_ref, lsO_Dt, tpO_Dt, scO_Dt, lsO_Dl, tpO_Dl, scO_Dl, objOf, attrV, fldV, setO, putD, methB, meV, isLst, callV, pickV, inV2, scV, mapO, L2.inV, L2.eqV, List.lookup, beq_ofString, ofString_inj, line, f__law_runs_B0, f__law_runs_C0, rI, rM, rE, Op.row, Op.do, rT, hr, iT, hy, hb, hc, hl, slcV, cut, HT.sIx, srSeq, wipeE, Tg.slots, il_snoc, z0, il_set, -L2.ixN, zb, zi]
  | stop =>
    simp -implicitDefEqProofs [Op.row, rT, kSeq_k0, kSeq_k1, xB0, xB1, kAsg_k0, xAsg, kNx_k0, kNxD_k0, kFl2_k0, kFl1_k0, xFld, kSu3_k0, kSu2_k0, kSu1_k0, xSub, xExpr, xRetN, kRet_k0, xRet, kIte_k0, kIte_k1, xIte, kTru_k0, xT, xVar, xCon, xGlo, kBi2_k0, kBi1_k0, xBin, kNeg_k0, xNeg, kCm2_k0, kCm1_k0, xCmp, kIsN_k0, xIsN, kCh4_k0, kCh3_k0, kCh3_k1, kCh2_k0, kCh1_k0, xChain, xAnd, xOr, kAnd_k0, kAnd_k1, kOr_k0, kOr_k1, xAnd1, xAnd2, xOr1, xOr2, kNot_k0, xNot, kIfe_k0, kIfe_k1, xIfe, kLst_k0, xLst, kTup_k0, xTup, kIx2_k0, kIx1_k0, xIdx, kSl3_k0, kSl2_k0, kSl1_k0, xSlc, kOI_k0, xO0, xO1, kBf_k0, xBi, kMe2_k0, kMe1_k0, xMe, kCal_k0, xCall, kMt2_k0, kMt1_k0, xMeth, kMk2_k0, kMk1_k0, xMake, kAt_k0, xAttr, kPi2_k0, kPi1_k0, xPick, kEs2_k0, kEs1_k0, xEs0, xEs1, xC0, xC1, kSq_k0, kRg_k0, kEu_k0, xSq, xRg, xEu, kFn_k0, kFn_k1, kCo3_k0, kCo2_k0, xComp, kB2_k0, kB1_k0, kB1_k1, xCb, noExc_k0, kCF_k0, kCF_k1, xCF0, xCF1, xCI, xFn, okIf, idxV, sqOf, cmpV, cmpN, cmpI, truV, binV, asg, asgs, subV, mkL, mkLn, frzL, frzT, allT, isNB, at0, at1, at2, at3, L2.ixN, biV, eq_int, eq_str, line, lsOf_tl, tpOf_tl, scOf_tl, snap_t, allT_il, tl_fold, tl0, tl1, tl2, il0, il1, il2, il_len, lsO_non, tpO_non, scO_non, lsO_bl, tpO_bl, scO_bl, lsO_int, tpO_int, scO_int, lsO_str, tpO_str, scO_str, lsO_tup, tpO_tup, scO_tup, lsO_lst, tpO_lst, scO_lst, lsO_scr, tpO_scr, scO_scr, lsO_ref, tpO_ref, scO_ref, lsO_Dt, tpO_Dt, scO_Dt, lsO_Dl, tpO_Dl, scO_Dl] at hr
    refine ⟨s.place + 1, s.calls, ?_, fun z => by simp [Op.do] at z⟩
    simp -implicitDefEqProofs [kSeq_k0, kSeq_k1, xB0, xB1, kAsg_k0, xAsg, kNx_k0, kNxD_k0, kFl2_k0, kFl1_k0, xFld, kSu3_k0, kSu2_k0, kSu1_k0, xSub, xExpr, xRetN, kRet_k0, xRet, kIte_k0, kIte_k1, xIte, kTru_k0, xT, xVar, xCon, xGlo, kBi2_k0, kBi1_k0, xBin, kNeg_k0, xNeg, kCm2_k0, kCm1_k0, xCmp, kIsN_k0, xIsN, kCh4_k0, kCh3_k0, kCh3_k1, kCh2_k0, kCh1_k0, xChain, xAnd, xOr, kAnd_k0, kAnd_k1, kOr_k0, kOr_k1, xAnd1, xAnd2, xOr1, xOr2, kNot_k0, xNot, kIfe_k0, kIfe_k1, xIfe, kLst_k0, xLst, kTup_k0, xTup, kIx2_k0, kIx1_k0, xIdx, kSl3_k0, kSl2_k0, kSl1_k0, xSlc, kOI_k0, xO0, xO1, kBf_k0, xBi, kMe2_k0, kMe1_k0, xMe, kCal_k0, xCall, kMt2_k0, kMt1_k0, xMeth, kMk2_k0, kMk1_k0, xMake, kAt_k0, xAttr, kPi2_k0, kPi1_k0, xPick, kEs2_k0, kEs1_k0, xEs0, xEs1, xC0, xC1, kSq_k0, kRg_k0, kEu_k0, xSq, xRg, xEu, kFn_k0, kFn_k1, kCo3_k0, kCo2_k0, xComp, kB2_k0, kB1_k0, kB1_k1, xCb, noExc_k0, kCF_k0, kCF_k1, xCF0, xCF1, xCI, xFn, okIf, idxV, sqOf, cmpV, cmpN, cmpI, truV, binV, asg, asgs, subV, mkL, mkLn, frzL, frzT, allT, isNB, at0, at1, at2, at3, L2.ixN, biV, eq_int, eq_str, line, lsOf_tl, tpOf_tl, scOf_tl, snap_t, allT_il, tl_fold, tl0, tl1, tl2, il0, il1, il2, il_len, lsO_non, tpO_non, scO_non, lsO_bl, tpO_bl, scO_bl, lsO_int, tpO_int, scO_int, lsO_str, tpO_str, scO_str, lsO_tup, tpO_tup, scO_tup, lsO_lst, tpO_lst, scO_lst, lsO_scr, tpO_scr, scO_scr, lsO_ref, tpO_ref, scO_ref, lsO_Dt, tpO_Dt, scO_Dt, lsO_Dl, tpO_Dl, scO_Dl, objOf, attrV, fldV, setO, putD, methB, meV, isLst, callV, pickV, inV2, scV, mapO, L2.inV, L2.eqV, List.lookup, beq_ofString, ofString_inj, line, f__law_runs_B0, f__law_runs_C0, rI, rM, rE, Op.row, Op.do, rT, hr, iT, hy, hb, hc, hl, slcV, cut, HT.sIx, srSeq, wipeE, Tg.slots, il_snoc, z0, il_set, -L2.ixN]
  | back =>
    simp -implicitDefEqProofs [Op.row, rT, kSeq_k0, kSeq_k1, xB0, xB1, kAsg_k0, xAsg, kNx_k0, kNxD_k0, kFl2_k0, kFl1_k0, xFld, kSu3_k0, kSu2_k0, kSu1_k0, xSub, xExpr, xRetN, kRet_k0, xRet, kIte_k0, kIte_k1, xIte, kTru_k0, xT, xVar, xCon, xGlo, kBi2_k0, kBi1_k0, xBin, kNeg_k0, xNeg, kCm2_k0, kCm1_k0, xCmp, kIsN_k0, xIsN, kCh4_k0, kCh3_k0, kCh3_k1, kCh2_k0, kCh1_k0, xChain, xAnd, xOr, kAnd_k0, kAnd_k1, kOr_k0, kOr_k1, xAnd1, xAnd2, xOr1, xOr2, kNot_k0, xNot, kIfe_k0, kIfe_k1, xIfe, kLst_k0, xLst, kTup_k0, xTup, kIx2_k0, kIx1_k0, xIdx, kSl3_k0, kSl2_k0, kSl1_k0, xSlc, kOI_k0, xO0, xO1, kBf_k0, xBi, kMe2_k0, kMe1_k0, xMe, kCal_k0, xCall, kMt2_k0, kMt1_k0, xMeth, kMk2_k0, kMk1_k0, xMake, kAt_k0, xAttr, kPi2_k0, kPi1_k0, xPick, kEs2_k0, kEs1_k0, xEs0, xEs1, xC0, xC1, kSq_k0, kRg_k0, kEu_k0, xSq, xRg, xEu, kFn_k0, kFn_k1, kCo3_k0, kCo2_k0, xComp, kB2_k0, kB1_k0, kB1_k1, xCb, noExc_k0, kCF_k0, kCF_k1, xCF0, xCF1, xCI, xFn, okIf, idxV, sqOf, cmpV, cmpN, cmpI, truV, binV, asg, asgs, subV, mkL, mkLn, frzL, frzT, allT, isNB, at0, at1, at2, at3, L2.ixN, biV, eq_int, eq_str, line, lsOf_tl, tpOf_tl, scOf_tl, snap_t, allT_il, tl_fold, tl0, tl1, tl2, il0, il1, il2, il_len, lsO_non, tpO_non, scO_non, lsO_bl, tpO_bl, scO_bl, lsO_int, tpO_int, scO_int, lsO_str, tpO_str, scO_str, lsO_tup, tpO_tup, scO_tup, lsO_lst, tpO_lst, scO_lst, lsO_scr, tpO_scr, scO_scr, lsO_ref, tpO_ref, scO_ref, lsO_Dt, tpO_Dt, scO_Dt, lsO_Dl, tpO_Dl, scO_Dl] at hr
    by_cases h : s.calls = []
    · refine ⟨s.place + 1, [], ?_, fun z => by simp [Op.do, h] at z⟩
      simp -implicitDefEqProofs [kSeq_k0, kSeq_k1, xB0, xB1, kAsg_k0, xAsg, kNx_k0, kNxD_k0, kFl2_k0, kFl1_k0, xFld, kSu3_k0, kSu2_k0, kSu1_k0, xSub, xExpr, xRetN, kRet_k0, xRet, kIte_k0, kIte_k1, xIte, kTru_k0, xT, xVar, xCon, xGlo, kBi2_k0, kBi1_k0, xBin, kNeg_k0, xNeg, kCm2_k0, kCm1_k0, xCmp, kIsN_k0, xIsN, kCh4_k0, kCh3_k0, kCh3_k1, kCh2_k0, kCh1_k0, xChain, xAnd, xOr, kAnd_k0, kAnd_k1, kOr_k0, kOr_k1, xAnd1, xAnd2, xOr1, xOr2, kNot_k0, xNot, kIfe_k0, kIfe_k1, xIfe, kLst_k0, xLst, kTup_k0, xTup, kIx2_k0, kIx1_k0, xIdx, kSl3_k0, kSl2_k0, kSl1_k0, xSlc, kOI_k0, xO0, xO1, kBf_k0, xBi, kMe2_k0, kMe1_k0, xMe, kCal_k0, xCall, kMt2_k0, kMt1_k0, xMeth, kMk2_k0, kMk1_k0, xMake, kAt_k0, xAttr, kPi2_k0, kPi1_k0, xPick, kEs2_k0, kEs1_k0, xEs0, xEs1, xC0, xC1, kSq_k0, kRg_k0, kEu_k0, xSq, xRg, xEu, kFn_k0, kFn_k1, kCo3_k0, kCo2_k0, xComp, kB2_k0, kB1_k0, kB1_k1, xCb, noExc_k0, kCF_k0, kCF_k1, xCF0, xCF1, xCI, xFn, okIf, idxV, sqOf, cmpV, cmpN, cmpI, truV, binV, asg, asgs, subV, mkL, mkLn, frzL, frzT, allT, isNB, at0, at1, at2, at3, L2.ixN, biV, eq_int, eq_str, line, lsOf_tl, tpOf_tl, scOf_tl, snap_t, allT_il, tl_fold, tl0, tl1, tl2, il0, il1, il2, il_len, lsO_non, tpO_non, scO_non, lsO_bl, tpO_bl, scO_bl, lsO_int, tpO_int, scO_int, lsO_str, tpO_str, scO_str, lsO_tup, tpO_tup, scO_tup, lsO_lst, tpO_lst, scO_lst, lsO_scr, tpO_scr, scO_scr, lsO_ref, tpO_ref, scO_ref, lsO_Dt, tpO_Dt, scO_Dt, lsO_Dl, tpO_Dl, scO_Dl, objOf, attrV, fldV, setO, putD, methB, meV, isLst, callV, pickV, inV2, scV, mapO, L2.inV, L2.eqV, List.lookup, beq_ofString, ofString_inj, line, f__law_runs_B0, f__law_runs_C0, rI, rM, rE, Op.row, Op.do, rT, hr, iT, hy, hb, hc, hl, slcV, cutA, cutB, atm0, eq_nil2, srSeq, wipeE, Tg.slots, il_snoc, z0, il_set, -L2.ixN, eq_tl_nil, hl3, -List.getLastD_eq_getLast?, h]
    · refine ⟨s.calls.getLastD 0, s.calls.dropLast, ?_, fun _ => by simp [Op.do, h]⟩
      simp -implicitDefEqProofs [kSeq_k0, kSeq_k1, xB0, xB1, kAsg_k0, xAsg, kNx_k0, kNxD_k0, kFl2_k0, kFl1_k0, xFld, kSu3_k0, kSu2_k0, kSu1_k0, xSub, xExpr, xRetN, kRet_k0, xRet, kIte_k0, kIte_k1, xIte, kTru_k0, xT, xVar, xCon, xGlo, kBi2_k0, kBi1_k0, xBin, kNeg_k0, xNeg, kCm2_k0, kCm1_k0, xCmp, kIsN_k0, xIsN, kCh4_k0, kCh3_k0, kCh3_k1, kCh2_k0, kCh1_k0, xChain, xAnd, xOr, kAnd_k0, kAnd_k1, kOr_k0, kOr_k1, xAnd1, xAnd2, xOr1, xOr2, kNot_k0, xNot, kIfe_k0, kIfe_k1, xIfe, kLst_k0, xLst, kTup_k0, xTup, kIx2_k0, kIx1_k0, xIdx, kSl3_k0, kSl2_k0, kSl1_k0, xSlc, kOI_k0, xO0, xO1, kBf_k0, xBi, kMe2_k0, kMe1_k0, xMe, kCal_k0, xCall, kMt2_k0, kMt1_k0, xMeth, kMk2_k0, kMk1_k0, xMake, kAt_k0, xAttr, kPi2_k0, kPi1_k0, xPick, kEs2_k0, kEs1_k0, xEs0, xEs1, xC0, xC1, kSq_k0, kRg_k0, kEu_k0, xSq, xRg, xEu, kFn_k0, kFn_k1, kCo3_k0, kCo2_k0, xComp, kB2_k0, kB1_k0, kB1_k1, xCb, noExc_k0, kCF_k0, kCF_k1, xCF0, xCF1, xCI, xFn, okIf, idxV, sqOf, cmpV, cmpN, cmpI, truV, binV, asg, asgs, subV, mkL, mkLn, frzL, frzT, allT, isNB, at0, at1, at2, at3, L2.ixN, biV, eq_int, eq_str, line, lsOf_tl, tpOf_tl, scOf_tl, snap_t, allT_il, tl_fold, tl0, tl1, tl2, il0, il1, il2, il_len, lsO_non, tpO_non, scO_non, lsO_bl, tpO_bl, scO_bl, lsO_int, tpO_int, scO_int, lsO_str, tpO_str, scO_str, lsO_tup, tpO_tup, scO_tup, lsO_lst, tpO_lst, scO_lst, lsO_scr, tpO_scr, scO_scr, lsO_ref, tpO_ref, scO_ref, lsO_Dt, tpO_Dt, scO_Dt, lsO_Dl, tpO_Dl, scO_Dl, objOf, attrV, fldV, setO, putD, methB, meV, isLst, callV, pickV, inV2, scV, mapO, L2.inV, L2.eqV, List.lookup, beq_ofString, ofString_inj, line, f__law_runs_B0, f__law_runs_C0, rI, rM, rE, Op.row, Op.do, rT, hr, iT, hy, hb, hc, hl, slcV, cutA, cutB, atm0, eq_nil2, srSeq, wipeE, Tg.slots, il_snoc, z0, il_set, -L2.ixN, eq_tl_nil, hl3, -List.getLastD_eq_getLast?, h, atm1, cut_il, cut_last]
      simp [tl]
  | say b =>
    have zb := bo_il hb hg
    simp -implicitDefEqProofs [Op.row, rT, kSeq_k0, kSeq_k1, xB0, xB1, kAsg_k0, xAsg, kNx_k0, kNxD_k0, kFl2_k0, kFl1_k0, xFld, kSu3_k0, kSu2_k0, kSu1_k0, xSub, xExpr, xRetN, kRet_k0, xRet, kIte_k0, kIte_k1, xIte, kTru_k0, xT, xVar, xCon, xGlo, kBi2_k0, kBi1_k0, xBin, kNeg_k0, xNeg, kCm2_k0, kCm1_k0, xCmp, kIsN_k0, xIsN, kCh4_k0, kCh3_k0, kCh3_k1, kCh2_k0, kCh1_k0, xChain, xAnd, xOr, kAnd_k0, kAnd_k1, kOr_k0, kOr_k1, xAnd1, xAnd2, xOr1, xOr2, kNot_k0, xNot, kIfe_k0, kIfe_k1, xIfe, kLst_k0, xLst, kTup_k0, xTup, kIx2_k0, kIx1_k0, xIdx, kSl3_k0, kSl2_k0, kSl1_k0, xSlc, kOI_k0, xO0, xO1, kBf_k0, xBi, kMe2_k0, kMe1_k0, xMe, kCal_k0, xCall, kMt2_k0, kMt1_k0, xMeth, kMk2_k0, kMk1_k0, xMake, kAt_k0, xAttr, kPi2_k0, kPi1_k0, xPick, kEs2_k0, kEs1_k0, xEs0, xEs1, xC0, xC1, kSq_k0, kRg_k0, kEu_k0, xSq, xRg, xEu, kFn_k0, kFn_k1, kCo3_k0, kCo2_k0, xComp, kB2_k0, kB1_k0, kB1_k1, xCb, noExc_k0, kCF_k0, kCF_k1, xCF0, xCF1, xCI, xFn, okIf, idxV, sqOf, cmpV, cmpN, cmpI, truV, binV, asg, asgs, subV, mkL, mkLn, frzL, frzT, allT, isNB, at0, at1, at2, at3, L2.ixN, biV, eq_int, eq_str, line, lsOf_tl, tpOf_tl, scOf_tl, snap_t, allT_il, tl_fold, tl0, tl1, tl2, il0, il1, il2, il_len, lsO_non, tpO_non, scO_non, lsO_bl, tpO_bl, scO_bl, lsO_int, tpO_int, scO_int, lsO_str, tpO_str, scO_str, lsO_tup, tpO_tup, scO_tup, lsO_lst, tpO_lst, scO_lst, lsO_scr, tpO_scr, scO_scr, lsO_ref, tpO_ref, scO_ref, lsO_Dt, tpO_Dt, scO_Dt, lsO_Dl, tpO_Dl, scO_Dl] at hr
    refine ⟨s.place + 1, s.calls, ?_, fun _ => ⟨rfl, rfl⟩⟩
    simp -implicitDefEqProofs [kSeq_k0, kSeq_k1, xB0, xB1, kAsg_k0, xAsg, kNx_k0, kNxD_k0, kFl2_k0, kFl1_k0, xFld, kSu3_k0, kSu2_k0, kSu1_k0, xSub, xExpr, xRetN, kRet_k0, xRet, kIte_k0, kIte_k1, xIte, kTru_k0, xT, xVar, xCon, xGlo, kBi2_k0, kBi1_k0, xBin, kNeg_k0, xNeg, kCm2_k0, kCm1_k0, xCmp, kIsN_k0, xIsN, kCh4_k0, kCh3_k0, kCh3_k1, kCh2_k0, kCh1_k0, xChain, xAnd, xOr, kAnd_k0, kAnd_k1, kOr_k0, kOr_k1, xAnd1, xAnd2, xOr1, xOr2, kNot_k0, xNot, kIfe_k0, kIfe_k1, xIfe, kLst_k0, xLst, kTup_k0, xTup, kIx2_k0, kIx1_k0, xIdx, kSl3_k0, kSl2_k0, kSl1_k0, xSlc, kOI_k0, xO0, xO1, kBf_k0, xBi, kMe2_k0, kMe1_k0, xMe, kCal_k0, xCall, kMt2_k0, kMt1_k0, xMeth, kMk2_k0, kMk1_k0, xMake, kAt_k0, xAttr, kPi2_k0, kPi1_k0, xPick, kEs2_k0, kEs1_k0, xEs0, xEs1, xC0, xC1, kSq_k0, kRg_k0, kEu_k0, xSq, xRg, xEu, kFn_k0, kFn_k1, kCo3_k0, kCo2_k0, xComp, kB2_k0, kB1_k0, kB1_k1, xCb, noExc_k0, kCF_k0, kCF_k1, xCF0, xCF1, xCI, xFn, okIf, idxV, sqOf, cmpV, cmpN, cmpI, truV, binV, asg, asgs, subV, mkL, mkLn, frzL, frzT, allT, isNB, at0, at1, at2, at3, L2.ixN, biV, eq_int, eq_str, line, lsOf_tl, tpOf_tl, scOf_tl, snap_t, allT_il, tl_fold, tl0, tl1, tl2, il0, il1, il2, il_len, lsO_non, tpO_non, scO_non, lsO_bl, tpO_bl, scO_bl, lsO_int, tpO_int, scO_int, lsO_str, tpO_str, scO_str, lsO_tup, tpO_tup, scO_tup, lsO_lst, tpO_lst, scO_lst, lsO_scr, tpO_scr, scO_scr, lsO_ref, tpO_ref, scO_ref, lsO_Dt, tpO_Dt, scO_Dt, lsO_Dl, tpO_Dl, scO_Dl, objOf, attrV, fldV, setO, putD, methB, meV, isLst, callV, pickV, inV2, scV, mapO, L2.inV, L2.eqV, List.lookup, beq_ofString, ofString_inj, line, f__law_runs_B0, f__law_runs_C0, rI, rM, rE, Op.row, Op.do, rT, hr, iT, hy, hb, hc, hl, slcV, cut, HT.sIx, srSeq, wipeE, Tg.slots, il_snoc, z0, il_set, -L2.ixN, zb, hl2]
  | move b c =>
    have zb := bo_il hb hg.1
    have zc := bo_il hb hg.2
    have zi := bo_ix hg.1
    simp -implicitDefEqProofs [Op.row, rT, kSeq_k0, kSeq_k1, xB0, xB1, kAsg_k0, xAsg, kNx_k0, kNxD_k0, kFl2_k0, kFl1_k0, xFld, kSu3_k0, kSu2_k0, kSu1_k0, xSub, xExpr, xRetN, kRet_k0, xRet, kIte_k0, kIte_k1, xIte, kTru_k0, xT, xVar, xCon, xGlo, kBi2_k0, kBi1_k0, xBin, kNeg_k0, xNeg, kCm2_k0, kCm1_k0, xCmp, kIsN_k0, xIsN, kCh4_k0, kCh3_k0, kCh3_k1, kCh2_k0, kCh1_k0, xChain, xAnd, xOr, kAnd_k0, kAnd_k1, kOr_k0, kOr_k1, xAnd1, xAnd2, xOr1, xOr2, kNot_k0, xNot, kIfe_k0, kIfe_k1, xIfe, kLst_k0, xLst, kTup_k0, xTup, kIx2_k0, kIx1_k0, xIdx, kSl3_k0, kSl2_k0, kSl1_k0, xSlc, kOI_k0, xO0, xO1, kBf_k0, xBi, kMe2_k0, kMe1_k0, xMe, kCal_k0, xCall, kMt2_k0, kMt1_k0, xMeth, kMk2_k0, kMk1_k0, xMake, kAt_k0, xAttr, kPi2_k0, kPi1_k0, xPick, kEs2_k0, kEs1_k0, xEs0, xEs1, xC0, xC1, kSq_k0, kRg_k0, kEu_k0, xSq, xRg, xEu, kFn_k0, kFn_k1, kCo3_k0, kCo2_k0, xComp, kB2_k0, kB1_k0, kB1_k1, xCb, noExc_k0, kCF_k0, kCF_k1, xCF0, xCF1, xCI, xFn, okIf, idxV, sqOf, cmpV, cmpN, cmpI, truV, binV, asg, asgs, subV, mkL, mkLn, frzL, frzT, allT, isNB, at0, at1, at2, at3, L2.ixN, biV, eq_int, eq_str, line, lsOf_tl, tpOf_tl, scOf_tl, snap_t, allT_il, tl_fold, tl0, tl1, tl2, il0, il1, il2, il_len, lsO_non, tpO_non, scO_non, lsO_bl, tpO_bl, scO_bl, lsO_int, tpO_int, scO_int, lsO_str, tpO_str, scO_str, lsO_tup, tpO_tup, scO_tup, lsO_lst, tpO_lst, scO_lst, lsO_scr, tpO_scr, scO_scr, lsO_ref, tpO_ref, scO_ref, lsO_Dt, tpO_Dt, scO_Dt, lsO_Dl, tpO_Dl, scO_Dl] at hr
    refine ⟨s.place + 1, s.calls, ?_, fun _ => ⟨rfl, rfl⟩⟩
    simp -implicitDefEqProofs [kSeq_k0, kSeq_k1, xB0, xB1, kAsg_k0, xAsg, kNx_k0, kNxD_k0, kFl2_k0, kFl1_k0, xFld, kSu3_k0, kSu2_k0, kSu1_k0, xSub, xExpr, xRetN, kRet_k0, xRet, kIte_k0, kIte_k1, xIte, kTru_k0, xT, xVar, xCon, xGlo, kBi2_k0, kBi1_k0, xBin, kNeg_k0, xNeg, kCm2_k0, kCm1_k0, xCmp, kIsN_k0, xIsN, kCh4_k0, kCh3_k0, kCh3_k1, kCh2_k0, kCh1_k0, xChain, xAnd, xOr, kAnd_k0, kAnd_k1, kOr_k0, kOr_k1, xAnd1, xAnd2, xOr1, xOr2, kNot_k0, xNot, kIfe_k0, kIfe_k1, xIfe, kLst_k0, xLst, kTup_k0, xTup, kIx2_k0, kIx1_k0, xIdx, kSl3_k0, kSl2_k0, kSl1_k0, xSlc, kOI_k0, xO0, xO1, kBf_k0, xBi, kMe2_k0, kMe1_k0, xMe, kCal_k0, xCall, kMt2_k0, kMt1_k0, xMeth, kMk2_k0, kMk1_k0, xMake, kAt_k0, xAttr, kPi2_k0, kPi1_k0, xPick, kEs2_k0, kEs1_k0, xEs0, xEs1, xC0, xC1, kSq_k0, kRg_k0, kEu_k0, xSq, xRg, xEu, kFn_k0, kFn_k1, kCo3_k0, kCo2_k0, xComp, kB2_k0, kB1_k0, kB1_k1, xCb, noExc_k0, kCF_k0, kCF_k1, xCF0, xCF1, xCI, xFn, okIf, idxV, sqOf, cmpV, cmpN, cmpI, truV, binV, asg, asgs, subV, mkL, mkLn, frzL, frzT, allT, isNB, at0, at1, at2, at3, L2.ixN, biV, eq_int, eq_str, line, lsOf_tl, tpOf_tl, scOf_tl, snap_t, allT_il, tl_fold, tl0, tl1, tl2, il0, il1, il2, il_len, lsO_non, tpO_non, scO_non, lsO_bl, tpO_bl, scO_bl, lsO_int, tpO_int, scO_int, lsO_str, tpO_str, scO_str, lsO_tup, tpO_tup, scO_tup, lsO_lst, tpO_lst, scO_lst, lsO_scr, tpO_scr, scO_scr, lsO_ref, tpO_ref, scO_ref, lsO_Dt, tpO_Dt, scO_Dt, lsO_Dl, tpO_Dl, scO_Dl, objOf, attrV, fldV, setO, putD, methB, meV, isLst, callV, pickV, inV2, scV, mapO, L2.inV, L2.eqV, List.lookup, beq_ofString, ofString_inj, line, f__law_runs_B0, f__law_runs_C0, rI, rM, rE, Op.row, Op.do, rT, hr, iT, hy, hb, hc, hl, slcV, cut, HT.sIx, srSeq, wipeE, Tg.slots, il_snoc, z0, il_set, -L2.ixN, zb, zc, zi]
  | add b c =>
    have zb := bo_il hb hg.1
    have zc := bo_il hb hg.2
    have zi := bo_ix hg.1
    simp -implicitDefEqProofs [Op.row, rT, kSeq_k0, kSeq_k1, xB0, xB1, kAsg_k0, xAsg, kNx_k0, kNxD_k0, kFl2_k0, kFl1_k0, xFld, kSu3_k0, kSu2_k0, kSu1_k0, xSub, xExpr, xRetN, kRet_k0, xRet, kIte_k0, kIte_k1, xIte, kTru_k0, xT, xVar, xCon, xGlo, kBi2_k0, kBi1_k0, xBin, kNeg_k0, xNeg, kCm2_k0, kCm1_k0, xCmp, kIsN_k0, xIsN, kCh4_k0, kCh3_k0, kCh3_k1, kCh2_k0, kCh1_k0, xChain, xAnd, xOr, kAnd_k0, kAnd_k1, kOr_k0, kOr_k1, xAnd1, xAnd2, xOr1, xOr2, kNot_k0, xNot, kIfe_k0, kIfe_k1, xIfe, kLst_k0, xLst, kTup_k0, xTup, kIx2_k0, kIx1_k0, xIdx, kSl3_k0, kSl2_k0, kSl1_k0, xSlc, kOI_k0, xO0, xO1, kBf_k0, xBi, kMe2_k0, kMe1_k0, xMe, kCal_k0, xCall, kMt2_k0, kMt1_k0, xMeth, kMk2_k0, kMk1_k0, xMake, kAt_k0, xAttr, kPi2_k0, kPi1_k0, xPick, kEs2_k0, kEs1_k0, xEs0, xEs1, xC0, xC1, kSq_k0, kRg_k0, kEu_k0, xSq, xRg, xEu, kFn_k0, kFn_k1, kCo3_k0, kCo2_k0, xComp, kB2_k0, kB1_k0, kB1_k1, xCb, noExc_k0, kCF_k0, kCF_k1, xCF0, xCF1, xCI, xFn, okIf, idxV, sqOf, cmpV, cmpN, cmpI, truV, binV, asg, asgs, subV, mkL, mkLn, frzL, frzT, allT, isNB, at0, at1, at2, at3, L2.ixN, biV, eq_int, eq_str, line, lsOf_tl, tpOf_tl, scOf_tl, snap_t, allT_il, tl_fold, tl0, tl1, tl2, il0, il1, il2, il_len, lsO_non, tpO_non, scO_non, lsO_bl, tpO_bl, scO_bl, lsO_int, tpO_int, scO_int, lsO_str, tpO_str, scO_str, lsO_tup, tpO_tup, scO_tup, lsO_lst, tpO_lst, scO_lst, lsO_scr, tpO_scr, scO_scr, lsO_ref, tpO_ref, scO_ref, lsO_Dt, tpO_Dt, scO_Dt, lsO_Dl, tpO_Dl, scO_Dl] at hr
    refine ⟨s.place + 1, s.calls, ?_, fun _ => ⟨rfl, rfl⟩⟩
    simp -implicitDefEqProofs [kSeq_k0, kSeq_k1, xB0, xB1, kAsg_k0, xAsg, kNx_k0, kNxD_k0, kFl2_k0, kFl1_k0, xFld, kSu3_k0, kSu2_k0, kSu1_k0, xSub, xExpr, xRetN, kRet_k0, xRet, kIte_k0, kIte_k1, xIte, kTru_k0, xT, xVar, xCon, xGlo, kBi2_k0, kBi1_k0, xBin, kNeg_k0, xNeg, kCm2_k0, kCm1_k0, xCmp, kIsN_k0, xIsN, kCh4_k0, kCh3_k0, kCh3_k1, kCh2_k0, kCh1_k0, xChain, xAnd, xOr, kAnd_k0, kAnd_k1, kOr_k0, kOr_k1, xAnd1, xAnd2, xOr1, xOr2, kNot_k0, xNot, kIfe_k0, kIfe_k1, xIfe, kLst_k0, xLst, kTup_k0, xTup, kIx2_k0, kIx1_k0, xIdx, kSl3_k0, kSl2_k0, kSl1_k0, xSlc, kOI_k0, xO0, xO1, kBf_k0, xBi, kMe2_k0, kMe1_k0, xMe, kCal_k0, xCall, kMt2_k0, kMt1_k0, xMeth, kMk2_k0, kMk1_k0, xMake, kAt_k0, xAttr, kPi2_k0, kPi1_k0, xPick, kEs2_k0, kEs1_k0, xEs0, xEs1, xC0, xC1, kSq_k0, kRg_k0, kEu_k0, xSq, xRg, xEu, kFn_k0, kFn_k1, kCo3_k0, kCo2_k0, xComp, kB2_k0, kB1_k0, kB1_k1, xCb, noExc_k0, kCF_k0, kCF_k1, xCF0, xCF1, xCI, xFn, okIf, idxV, sqOf, cmpV, cmpN, cmpI, truV, binV, asg, asgs, subV, mkL, mkLn, frzL, frzT, allT, isNB, at0, at1, at2, at3, L2.ixN, biV, eq_int, eq_str, line, lsOf_tl, tpOf_tl, scOf_tl, snap_t, allT_il, tl_fold, tl0, tl1, tl2, il0, il1, il2, il_len, lsO_non, tpO_non, scO_non, lsO_bl, tpO_bl, scO_bl, lsO_int, tpO_int, scO_int, lsO_str, tpO_str, scO_str, lsO_tup, tpO_tup, scO_tup, lsO_lst, tpO_lst, scO_lst, lsO_scr, tpO_scr, scO_scr, lsO_ref, tpO_ref, scO_ref, lsO_Dt, tpO_Dt, scO_Dt, lsO_Dl, tpO_Dl, scO_Dl, objOf, attrV, fldV, setO, putD, methB, meV, isLst, callV, pickV, inV2, scV, mapO, L2.inV, L2.eqV, List.lookup, beq_ofString, ofString_inj, line, f__law_runs_B0, f__law_runs_C0, rI, rM, rE, Op.row, Op.do, rT, hr, iT, hy, hb, hc, hl, slcV, cut, HT.sIx, srSeq, wipeE, Tg.slots, il_snoc, z0, il_set, -L2.ixN, zb, zc, zi]
  | less b c =>
    have zb := bo_il hb hg.1
    have zc := bo_il hb hg.2
    have zi := bo_ix hg.1
    simp -implicitDefEqProofs [Op.row, rT, kSeq_k0, kSeq_k1, xB0, xB1, kAsg_k0, xAsg, kNx_k0, kNxD_k0, kFl2_k0, kFl1_k0, xFld, kSu3_k0, kSu2_k0, kSu1_k0, xSub, xExpr, xRetN, kRet_k0, xRet, kIte_k0, kIte_k1, xIte, kTru_k0, xT, xVar, xCon, xGlo, kBi2_k0, kBi1_k0, xBin, kNeg_k0, xNeg, kCm2_k0, kCm1_k0, xCmp, kIsN_k0, xIsN, kCh4_k0, kCh3_k0, kCh3_k1, kCh2_k0, kCh1_k0, xChain, xAnd, xOr, kAnd_k0, kAnd_k1, kOr_k0, kOr_k1, xAnd1, xAnd2, xOr1, xOr2, kNot_k0, xNot, kIfe_k0, kIfe_k1, xIfe, kLst_k0, xLst, kTup_k0, xTup, kIx2_k0, kIx1_k0, xIdx, kSl3_k0, kSl2_k0, kSl1_k0, xSlc, kOI_k0, xO0, xO1, kBf_k0, xBi, kMe2_k0, kMe1_k0, xMe, kCal_k0, xCall, kMt2_k0, kMt1_k0, xMeth, kMk2_k0, kMk1_k0, xMake, kAt_k0, xAttr, kPi2_k0, kPi1_k0, xPick, kEs2_k0, kEs1_k0, xEs0, xEs1, xC0, xC1, kSq_k0, kRg_k0, kEu_k0, xSq, xRg, xEu, kFn_k0, kFn_k1, kCo3_k0, kCo2_k0, xComp, kB2_k0, kB1_k0, kB1_k1, xCb, noExc_k0, kCF_k0, kCF_k1, xCF0, xCF1, xCI, xFn, okIf, idxV, sqOf, cmpV, cmpN, cmpI, truV, binV, asg, asgs, subV, mkL, mkLn, frzL, frzT, allT, isNB, at0, at1, at2, at3, L2.ixN, biV, eq_int, eq_str, line, lsOf_tl, tpOf_tl, scOf_tl, snap_t, allT_il, tl_fold, tl0, tl1, tl2, il0, il1, il2, il_len, lsO_non, tpO_non, scO_non, lsO_bl, tpO_bl, scO_bl, lsO_int, tpO_int, scO_int, lsO_str, tpO_str, scO_str, lsO_tup, tpO_tup, scO_tup, lsO_lst, tpO_lst, scO_lst, lsO_scr, tpO_scr, scO_scr, lsO_ref, tpO_ref, scO_ref, lsO_Dt, tpO_Dt, scO_Dt, lsO_Dl, tpO_Dl, scO_Dl] at hr
    refine ⟨s.place + 1, s.calls, ?_, fun _ => ⟨rfl, rfl⟩⟩
    simp -implicitDefEqProofs [kSeq_k0, kSeq_k1, xB0, xB1, kAsg_k0, xAsg, kNx_k0, kNxD_k0, kFl2_k0, kFl1_k0, xFld, kSu3_k0, kSu2_k0, kSu1_k0, xSub, xExpr, xRetN, kRet_k0, xRet, kIte_k0, kIte_k1, xIte, kTru_k0, xT, xVar, xCon, xGlo, kBi2_k0, kBi1_k0, xBin, kNeg_k0, xNeg, kCm2_k0, kCm1_k0, xCmp, kIsN_k0, xIsN, kCh4_k0, kCh3_k0, kCh3_k1, kCh2_k0, kCh1_k0, xChain, xAnd, xOr, kAnd_k0, kAnd_k1, kOr_k0, kOr_k1, xAnd1, xAnd2, xOr1, xOr2, kNot_k0, xNot, kIfe_k0, kIfe_k1, xIfe, kLst_k0, xLst, kTup_k0, xTup, kIx2_k0, kIx1_k0, xIdx, kSl3_k0, kSl2_k0, kSl1_k0, xSlc, kOI_k0, xO0, xO1, kBf_k0, xBi, kMe2_k0, kMe1_k0, xMe, kCal_k0, xCall, kMt2_k0, kMt1_k0, xMeth, kMk2_k0, kMk1_k0, xMake, kAt_k0, xAttr, kPi2_k0, kPi1_k0, xPick, kEs2_k0, kEs1_k0, xEs0, xEs1, xC0, xC1, kSq_k0, kRg_k0, kEu_k0, xSq, xRg, xEu, kFn_k0, kFn_k1, kCo3_k0, kCo2_k0, xComp, kB2_k0, kB1_k0, kB1_k1, xCb, noExc_k0, kCF_k0, kCF_k1, xCF0, xCF1, xCI, xFn, okIf, idxV, sqOf, cmpV, cmpN, cmpI, truV, binV, asg, asgs, subV, mkL, mkLn, frzL, frzT, allT, isNB, at0, at1, at2, at3, L2.ixN, biV, eq_int, eq_str, line, lsOf_tl, tpOf_tl, scOf_tl, snap_t, allT_il, tl_fold, tl0, tl1, tl2, il0, il1, il2, il_len, lsO_non, tpO_non, scO_non, lsO_bl, tpO_bl, scO_bl, lsO_int, tpO_int, scO_int, lsO_str, tpO_str, scO_str, lsO_tup, tpO_tup, scO_tup, lsO_lst, tpO_lst, scO_lst, lsO_scr, tpO_scr, scO_scr, lsO_ref, tpO_ref, scO_ref, lsO_Dt, tpO_Dt, scO_Dt, lsO_Dl, tpO_Dl, scO_Dl, objOf, attrV, fldV, setO, putD, methB, meV, isLst, callV, pickV, inV2, scV, mapO, L2.inV, L2.eqV, List.lookup, beq_ofString, ofString_inj, line, f__law_runs_B0, f__law_runs_C0, rI, rM, rE, Op.row, Op.do, rT, hr, iT, hy, hb, hc, hl, slcV, cut, HT.sIx, srSeq, wipeE, Tg.slots, il_snoc, z0, il_set, -L2.ixN, zb, zc, zi]
  | load b n =>
    have zb := bo_il hb hg.1
    have zi := bo_ix hg.1
    have zn := no_il hc hg.2
    simp -implicitDefEqProofs [Op.row, rT, kSeq_k0, kSeq_k1, xB0, xB1, kAsg_k0, xAsg, kNx_k0, kNxD_k0, kFl2_k0, kFl1_k0, xFld, kSu3_k0, kSu2_k0, kSu1_k0, xSub, xExpr, xRetN, kRet_k0, xRet, kIte_k0, kIte_k1, xIte, kTru_k0, xT, xVar, xCon, xGlo, kBi2_k0, kBi1_k0, xBin, kNeg_k0, xNeg, kCm2_k0, kCm1_k0, xCmp, kIsN_k0, xIsN, kCh4_k0, kCh3_k0, kCh3_k1, kCh2_k0, kCh1_k0, xChain, xAnd, xOr, kAnd_k0, kAnd_k1, kOr_k0, kOr_k1, xAnd1, xAnd2, xOr1, xOr2, kNot_k0, xNot, kIfe_k0, kIfe_k1, xIfe, kLst_k0, xLst, kTup_k0, xTup, kIx2_k0, kIx1_k0, xIdx, kSl3_k0, kSl2_k0, kSl1_k0, xSlc, kOI_k0, xO0, xO1, kBf_k0, xBi, kMe2_k0, kMe1_k0, xMe, kCal_k0, xCall, kMt2_k0, kMt1_k0, xMeth, kMk2_k0, kMk1_k0, xMake, kAt_k0, xAttr, kPi2_k0, kPi1_k0, xPick, kEs2_k0, kEs1_k0, xEs0, xEs1, xC0, xC1, kSq_k0, kRg_k0, kEu_k0, xSq, xRg, xEu, kFn_k0, kFn_k1, kCo3_k0, kCo2_k0, xComp, kB2_k0, kB1_k0, kB1_k1, xCb, noExc_k0, kCF_k0, kCF_k1, xCF0, xCF1, xCI, xFn, okIf, idxV, sqOf, cmpV, cmpN, cmpI, truV, binV, asg, asgs, subV, mkL, mkLn, frzL, frzT, allT, isNB, at0, at1, at2, at3, L2.ixN, biV, eq_int, eq_str, line, lsOf_tl, tpOf_tl, scOf_tl, snap_t, allT_il, tl_fold, tl0, tl1, tl2, il0, il1, il2, il_len, lsO_non, tpO_non, scO_non, lsO_bl, tpO_bl, scO_bl, lsO_int, tpO_int, scO_int, lsO_str, tpO_str, scO_str, lsO_tup, tpO_tup, scO_tup, lsO_lst, tpO_lst, scO_lst, lsO_scr, tpO_scr, scO_scr, lsO_ref, tpO_ref, scO_ref, lsO_Dt, tpO_Dt, scO_Dt, lsO_Dl, tpO_Dl, scO_Dl] at hr
    refine ⟨s.place + 2, s.calls, ?_, fun _ => ⟨rfl, rfl⟩⟩
    simp -implicitDefEqProofs [kSeq_k0, kSeq_k1, xB0, xB1, kAsg_k0, xAsg, kNx_k0, kNxD_k0, kFl2_k0, kFl1_k0, xFld, kSu3_k0, kSu2_k0, kSu1_k0, xSub, xExpr, xRetN, kRet_k0, xRet, kIte_k0, kIte_k1, xIte, kTru_k0, xT, xVar, xCon, xGlo, kBi2_k0, kBi1_k0, xBin, kNeg_k0, xNeg, kCm2_k0, kCm1_k0, xCmp, kIsN_k0, xIsN, kCh4_k0, kCh3_k0, kCh3_k1, kCh2_k0, kCh1_k0, xChain, xAnd, xOr, kAnd_k0, kAnd_k1, kOr_k0, kOr_k1, xAnd1, xAnd2, xOr1, xOr2, kNot_k0, xNot, kIfe_k0, kIfe_k1, xIfe, kLst_k0, xLst, kTup_k0, xTup, kIx2_k0, kIx1_k0, xIdx, kSl3_k0, kSl2_k0, kSl1_k0, xSlc, kOI_k0, xO0, xO1, kBf_k0, xBi, kMe2_k0, kMe1_k0, xMe, kCal_k0, xCall, kMt2_k0, kMt1_k0, xMeth, kMk2_k0, kMk1_k0, xMake, kAt_k0, xAttr, kPi2_k0, kPi1_k0, xPick, kEs2_k0, kEs1_k0, xEs0, xEs1, xC0, xC1, kSq_k0, kRg_k0, kEu_k0, xSq, xRg, xEu, kFn_k0, kFn_k1, kCo3_k0, kCo2_k0, xComp, kB2_k0, kB1_k0, kB1_k1, xCb, noExc_k0, kCF_k0, kCF_k1, xCF0, xCF1, xCI, xFn, okIf, idxV, sqOf, cmpV, cmpN, cmpI, truV, binV, asg, asgs, subV, mkL, mkLn, frzL, frzT, allT, isNB, at0, at1, at2, at3, L2.ixN, biV, eq_int, eq_str, line, lsOf_tl, tpOf_tl, scOf_tl, snap_t, allT_il, tl_fold, tl0, tl1, tl2, il0, il1, il2, il_len, lsO_non, tpO_non, scO_non, lsO_bl, tpO_bl, scO_bl, lsO_int, tpO_int, scO_int, lsO_str, tpO_str, scO_str, lsO_tup, tpO_tup, scO_tup, lsO_lst, tpO_lst, scO_lst, lsO_scr, tpO_scr, scO_scr, lsO_ref, tpO_ref, scO_ref, lsO_Dt, tpO_Dt, scO_Dt, lsO_Dl, tpO_Dl, scO_Dl, objOf, attrV, fldV, setO, putD, methB, meV, isLst, callV, pickV, inV2, scV, mapO, L2.inV, L2.eqV, List.lookup, beq_ofString, ofString_inj, line, f__law_runs_B0, f__law_runs_C0, rI, rM, rE, Op.row, Op.do, rT, hr, iT, hy, hb, hc, hl, slcV, cut, HT.sIx, srSeq, wipeE, Tg.slots, il_snoc, z0, il_set, -L2.ixN, zb, zi, zn]
  | store b n =>
    have zb := bo_il hb hg.1
    have zn := no_ix hg.2
    simp -implicitDefEqProofs [Op.row, rT, kSeq_k0, kSeq_k1, xB0, xB1, kAsg_k0, xAsg, kNx_k0, kNxD_k0, kFl2_k0, kFl1_k0, xFld, kSu3_k0, kSu2_k0, kSu1_k0, xSub, xExpr, xRetN, kRet_k0, xRet, kIte_k0, kIte_k1, xIte, kTru_k0, xT, xVar, xCon, xGlo, kBi2_k0, kBi1_k0, xBin, kNeg_k0, xNeg, kCm2_k0, kCm1_k0, xCmp, kIsN_k0, xIsN, kCh4_k0, kCh3_k0, kCh3_k1, kCh2_k0, kCh1_k0, xChain, xAnd, xOr, kAnd_k0, kAnd_k1, kOr_k0, kOr_k1, xAnd1, xAnd2, xOr1, xOr2, kNot_k0, xNot, kIfe_k0, kIfe_k1, xIfe, kLst_k0, xLst, kTup_k0, xTup, kIx2_k0, kIx1_k0, xIdx, kSl3_k0, kSl2_k0, kSl1_k0, xSlc, kOI_k0, xO0, xO1, kBf_k0, xBi, kMe2_k0, kMe1_k0, xMe, kCal_k0, xCall, kMt2_k0, kMt1_k0, xMeth, kMk2_k0, kMk1_k0, xMake, kAt_k0, xAttr, kPi2_k0, kPi1_k0, xPick, kEs2_k0, kEs1_k0, xEs0, xEs1, xC0, xC1, kSq_k0, kRg_k0, kEu_k0, xSq, xRg, xEu, kFn_k0, kFn_k1, kCo3_k0, kCo2_k0, xComp, kB2_k0, kB1_k0, kB1_k1, xCb, noExc_k0, kCF_k0, kCF_k1, xCF0, xCF1, xCI, xFn, okIf, idxV, sqOf, cmpV, cmpN, cmpI, truV, binV, asg, asgs, subV, mkL, mkLn, frzL, frzT, allT, isNB, at0, at1, at2, at3, L2.ixN, biV, eq_int, eq_str, line, lsOf_tl, tpOf_tl, scOf_tl, snap_t, allT_il, tl_fold, tl0, tl1, tl2, il0, il1, il2, il_len, lsO_non, tpO_non, scO_non, lsO_bl, tpO_bl, scO_bl, lsO_int, tpO_int, scO_int, lsO_str, tpO_str, scO_str, lsO_tup, tpO_tup, scO_tup, lsO_lst, tpO_lst, scO_lst, lsO_scr, tpO_scr, scO_scr, lsO_ref, tpO_ref, scO_ref, lsO_Dt, tpO_Dt, scO_Dt, lsO_Dl, tpO_Dl, scO_Dl] at hr
    refine ⟨s.place + 2, s.calls, ?_, fun _ => ⟨rfl, rfl⟩⟩
    simp -implicitDefEqProofs [kSeq_k0, kSeq_k1, xB0, xB1, kAsg_k0, xAsg, kNx_k0, kNxD_k0, kFl2_k0, kFl1_k0, xFld, kSu3_k0, kSu2_k0, kSu1_k0, xSub, xExpr, xRetN, kRet_k0, xRet, kIte_k0, kIte_k1, xIte, kTru_k0, xT, xVar, xCon, xGlo, kBi2_k0, kBi1_k0, xBin, kNeg_k0, xNeg, kCm2_k0, kCm1_k0, xCmp, kIsN_k0, xIsN, kCh4_k0, kCh3_k0, kCh3_k1, kCh2_k0, kCh1_k0, xChain, xAnd, xOr, kAnd_k0, kAnd_k1, kOr_k0, kOr_k1, xAnd1, xAnd2, xOr1, xOr2, kNot_k0, xNot, kIfe_k0, kIfe_k1, xIfe, kLst_k0, xLst, kTup_k0, xTup, kIx2_k0, kIx1_k0, xIdx, kSl3_k0, kSl2_k0, kSl1_k0, xSlc, kOI_k0, xO0, xO1, kBf_k0, xBi, kMe2_k0, kMe1_k0, xMe, kCal_k0, xCall, kMt2_k0, kMt1_k0, xMeth, kMk2_k0, kMk1_k0, xMake, kAt_k0, xAttr, kPi2_k0, kPi1_k0, xPick, kEs2_k0, kEs1_k0, xEs0, xEs1, xC0, xC1, kSq_k0, kRg_k0, kEu_k0, xSq, xRg, xEu, kFn_k0, kFn_k1, kCo3_k0, kCo2_k0, xComp, kB2_k0, kB1_k0, kB1_k1, xCb, noExc_k0, kCF_k0, kCF_k1, xCF0, xCF1, xCI, xFn, okIf, idxV, sqOf, cmpV, cmpN, cmpI, truV, binV, asg, asgs, subV, mkL, mkLn, frzL, frzT, allT, isNB, at0, at1, at2, at3, L2.ixN, biV, eq_int, eq_str, line, lsOf_tl, tpOf_tl, scOf_tl, snap_t, allT_il, tl_fold, tl0, tl1, tl2, il0, il1, il2, il_len, lsO_non, tpO_non, scO_non, lsO_bl, tpO_bl, scO_bl, lsO_int, tpO_int, scO_int, lsO_str, tpO_str, scO_str, lsO_tup, tpO_tup, scO_tup, lsO_lst, tpO_lst, scO_lst, lsO_scr, tpO_scr, scO_scr, lsO_ref, tpO_ref, scO_ref, lsO_Dt, tpO_Dt, scO_Dt, lsO_Dl, tpO_Dl, scO_Dl, objOf, attrV, fldV, setO, putD, methB, meV, isLst, callV, pickV, inV2, scV, mapO, L2.inV, L2.eqV, List.lookup, beq_ofString, ofString_inj, line, f__law_runs_B0, f__law_runs_C0, rI, rM, rE, Op.row, Op.do, rT, hr, iT, hy, hb, hc, hl, slcV, cut, HT.sIx, srSeq, wipeE, Tg.slots, il_snoc, z0, il_set, -L2.ixN, zb, zn]
  | jump n =>
    simp -implicitDefEqProofs [Op.row, rT, kSeq_k0, kSeq_k1, xB0, xB1, kAsg_k0, xAsg, kNx_k0, kNxD_k0, kFl2_k0, kFl1_k0, xFld, kSu3_k0, kSu2_k0, kSu1_k0, xSub, xExpr, xRetN, kRet_k0, xRet, kIte_k0, kIte_k1, xIte, kTru_k0, xT, xVar, xCon, xGlo, kBi2_k0, kBi1_k0, xBin, kNeg_k0, xNeg, kCm2_k0, kCm1_k0, xCmp, kIsN_k0, xIsN, kCh4_k0, kCh3_k0, kCh3_k1, kCh2_k0, kCh1_k0, xChain, xAnd, xOr, kAnd_k0, kAnd_k1, kOr_k0, kOr_k1, xAnd1, xAnd2, xOr1, xOr2, kNot_k0, xNot, kIfe_k0, kIfe_k1, xIfe, kLst_k0, xLst, kTup_k0, xTup, kIx2_k0, kIx1_k0, xIdx, kSl3_k0, kSl2_k0, kSl1_k0, xSlc, kOI_k0, xO0, xO1, kBf_k0, xBi, kMe2_k0, kMe1_k0, xMe, kCal_k0, xCall, kMt2_k0, kMt1_k0, xMeth, kMk2_k0, kMk1_k0, xMake, kAt_k0, xAttr, kPi2_k0, kPi1_k0, xPick, kEs2_k0, kEs1_k0, xEs0, xEs1, xC0, xC1, kSq_k0, kRg_k0, kEu_k0, xSq, xRg, xEu, kFn_k0, kFn_k1, kCo3_k0, kCo2_k0, xComp, kB2_k0, kB1_k0, kB1_k1, xCb, noExc_k0, kCF_k0, kCF_k1, xCF0, xCF1, xCI, xFn, okIf, idxV, sqOf, cmpV, cmpN, cmpI, truV, binV, asg, asgs, subV, mkL, mkLn, frzL, frzT, allT, isNB, at0, at1, at2, at3, L2.ixN, biV, eq_int, eq_str, line, lsOf_tl, tpOf_tl, scOf_tl, snap_t, allT_il, tl_fold, tl0, tl1, tl2, il0, il1, il2, il_len, lsO_non, tpO_non, scO_non, lsO_bl, tpO_bl, scO_bl, lsO_int, tpO_int, scO_int, lsO_str, tpO_str, scO_str, lsO_tup, tpO_tup, scO_tup, lsO_lst, tpO_lst, scO_lst, lsO_scr, tpO_scr, scO_scr, lsO_ref, tpO_ref, scO_ref, lsO_Dt, tpO_Dt, scO_Dt, lsO_Dl, tpO_Dl, scO_Dl] at hr
    refine ⟨n, s.calls, ?_, fun _ => ⟨rfl, rfl⟩⟩
    simp -implicitDefEqProofs [kSeq_k0, kSeq_k1, xB0, xB1, kAsg_k0, xAsg, kNx_k0, kNxD_k0, kFl2_k0, kFl1_k0, xFld, kSu3_k0, kSu2_k0, kSu1_k0, xSub, xExpr, xRetN, kRet_k0, xRet, kIte_k0, kIte_k1, xIte, kTru_k0, xT, xVar, xCon, xGlo, kBi2_k0, kBi1_k0, xBin, kNeg_k0, xNeg, kCm2_k0, kCm1_k0, xCmp, kIsN_k0, xIsN, kCh4_k0, kCh3_k0, kCh3_k1, kCh2_k0, kCh1_k0, xChain, xAnd, xOr, kAnd_k0, kAnd_k1, kOr_k0, kOr_k1, xAnd1, xAnd2, xOr1, xOr2, kNot_k0, xNot, kIfe_k0, kIfe_k1, xIfe, kLst_k0, xLst, kTup_k0, xTup, kIx2_k0, kIx1_k0, xIdx, kSl3_k0, kSl2_k0, kSl1_k0, xSlc, kOI_k0, xO0, xO1, kBf_k0, xBi, kMe2_k0, kMe1_k0, xMe, kCal_k0, xCall, kMt2_k0, kMt1_k0, xMeth, kMk2_k0, kMk1_k0, xMake, kAt_k0, xAttr, kPi2_k0, kPi1_k0, xPick, kEs2_k0, kEs1_k0, xEs0, xEs1, xC0, xC1, kSq_k0, kRg_k0, kEu_k0, xSq, xRg, xEu, kFn_k0, kFn_k1, kCo3_k0, kCo2_k0, xComp, kB2_k0, kB1_k0, kB1_k1, xCb, noExc_k0, kCF_k0, kCF_k1, xCF0, xCF1, xCI, xFn, okIf, idxV, sqOf, cmpV, cmpN, cmpI, truV, binV, asg, asgs, subV, mkL, mkLn, frzL, frzT, allT, isNB, at0, at1, at2, at3, L2.ixN, biV, eq_int, eq_str, line, lsOf_tl, tpOf_tl, scOf_tl, snap_t, allT_il, tl_fold, tl0, tl1, tl2, il0, il1, il2, il_len, lsO_non, tpO_non, scO_non, lsO_bl, tpO_bl, scO_bl, lsO_int, tpO_int, scO_int, lsO_str, tpO_str, scO_str, lsO_tup, tpO_tup, scO_tup, lsO_lst, tpO_lst, scO_lst, lsO_scr, tpO_scr, scO_scr, lsO_ref, tpO_ref, scO_ref, lsO_Dt, tpO_Dt, scO_Dt, lsO_Dl, tpO_Dl, scO_Dl, objOf, attrV, fldV, setO, putD, methB, meV, isLst, callV, pickV, inV2, scV, mapO, L2.inV, L2.eqV, List.lookup, beq_ofString, ofString_inj, line, f__law_runs_B0, f__law_runs_C0, rI, rM, rE, Op.row, Op.do, rT, hr, iT, hy, hb, hc, hl, slcV, cut, HT.sIx, srSeq, wipeE, Tg.slots, il_snoc, z0, il_set, -L2.ixN]
  | call n =>
    simp -implicitDefEqProofs [Op.row, rT, kSeq_k0, kSeq_k1, xB0, xB1, kAsg_k0, xAsg, kNx_k0, kNxD_k0, kFl2_k0, kFl1_k0, xFld, kSu3_k0, kSu2_k0, kSu1_k0, xSub, xExpr, xRetN, kRet_k0, xRet, kIte_k0, kIte_k1, xIte, kTru_k0, xT, xVar, xCon, xGlo, kBi2_k0, kBi1_k0, xBin, kNeg_k0, xNeg, kCm2_k0, kCm1_k0, xCmp, kIsN_k0, xIsN, kCh4_k0, kCh3_k0, kCh3_k1, kCh2_k0, kCh1_k0, xChain, xAnd, xOr, kAnd_k0, kAnd_k1, kOr_k0, kOr_k1, xAnd1, xAnd2, xOr1, xOr2, kNot_k0, xNot, kIfe_k0, kIfe_k1, xIfe, kLst_k0, xLst, kTup_k0, xTup, kIx2_k0, kIx1_k0, xIdx, kSl3_k0, kSl2_k0, kSl1_k0, xSlc, kOI_k0, xO0, xO1, kBf_k0, xBi, kMe2_k0, kMe1_k0, xMe, kCal_k0, xCall, kMt2_k0, kMt1_k0, xMeth, kMk2_k0, kMk1_k0, xMake, kAt_k0, xAttr, kPi2_k0, kPi1_k0, xPick, kEs2_k0, kEs1_k0, xEs0, xEs1, xC0, xC1, kSq_k0, kRg_k0, kEu_k0, xSq, xRg, xEu, kFn_k0, kFn_k1, kCo3_k0, kCo2_k0, xComp, kB2_k0, kB1_k0, kB1_k1, xCb, noExc_k0, kCF_k0, kCF_k1, xCF0, xCF1, xCI, xFn, okIf, idxV, sqOf, cmpV, cmpN, cmpI, truV, binV, asg, asgs, subV, mkL, mkLn, frzL, frzT, allT, isNB, at0, at1, at2, at3, L2.ixN, biV, eq_int, eq_str, line, lsOf_tl, tpOf_tl, scOf_tl, snap_t, allT_il, tl_fold, tl0, tl1, tl2, il0, il1, il2, il_len, lsO_non, tpO_non, scO_non, lsO_bl, tpO_bl, scO_bl, lsO_int, tpO_int, scO_int, lsO_str, tpO_str, scO_str, lsO_tup, tpO_tup, scO_tup, lsO_lst, tpO_lst, scO_lst, lsO_scr, tpO_scr, scO_scr, lsO_ref, tpO_ref, scO_ref, lsO_Dt, tpO_Dt, scO_Dt, lsO_Dl, tpO_Dl, scO_Dl] at hr
    by_cases h : s.calls.length = 16
    · refine ⟨n, s.calls, ?_, fun z => by simp [Op.do, h] at z⟩
      simp -implicitDefEqProofs [kSeq_k0, kSeq_k1, xB0, xB1, kAsg_k0, xAsg, kNx_k0, kNxD_k0, kFl2_k0, kFl1_k0, xFld, kSu3_k0, kSu2_k0, kSu1_k0, xSub, xExpr, xRetN, kRet_k0, xRet, kIte_k0, kIte_k1, xIte, kTru_k0, xT, xVar, xCon, xGlo, kBi2_k0, kBi1_k0, xBin, kNeg_k0, xNeg, kCm2_k0, kCm1_k0, xCmp, kIsN_k0, xIsN, kCh4_k0, kCh3_k0, kCh3_k1, kCh2_k0, kCh1_k0, xChain, xAnd, xOr, kAnd_k0, kAnd_k1, kOr_k0, kOr_k1, xAnd1, xAnd2, xOr1, xOr2, kNot_k0, xNot, kIfe_k0, kIfe_k1, xIfe, kLst_k0, xLst, kTup_k0, xTup, kIx2_k0, kIx1_k0, xIdx, kSl3_k0, kSl2_k0, kSl1_k0, xSlc, kOI_k0, xO0, xO1, kBf_k0, xBi, kMe2_k0, kMe1_k0, xMe, kCal_k0, xCall, kMt2_k0, kMt1_k0, xMeth, kMk2_k0, kMk1_k0, xMake, kAt_k0, xAttr, kPi2_k0, kPi1_k0, xPick, kEs2_k0, kEs1_k0, xEs0, xEs1, xC0, xC1, kSq_k0, kRg_k0, kEu_k0, xSq, xRg, xEu, kFn_k0, kFn_k1, kCo3_k0, kCo2_k0, xComp, kB2_k0, kB1_k0, kB1_k1, xCb, noExc_k0, kCF_k0, kCF_k1, xCF0, xCF1, xCI, xFn, okIf, idxV, sqOf, cmpV, cmpN, cmpI, truV, binV, asg, asgs, subV, mkL, mkLn, frzL, frzT, allT, isNB, at0, at1, at2, at3, L2.ixN, biV, eq_int, eq_str, line, lsOf_tl, tpOf_tl, scOf_tl, snap_t, allT_il, tl_fold, tl0, tl1, tl2, il0, il1, il2, il_len, lsO_non, tpO_non, scO_non, lsO_bl, tpO_bl, scO_bl, lsO_int, tpO_int, scO_int, lsO_str, tpO_str, scO_str, lsO_tup, tpO_tup, scO_tup, lsO_lst, tpO_lst, scO_lst, lsO_scr, tpO_scr, scO_scr, lsO_ref, tpO_ref, scO_ref, lsO_Dt, tpO_Dt, scO_Dt, lsO_Dl, tpO_Dl, scO_Dl, objOf, attrV, fldV, setO, putD, methB, meV, isLst, callV, pickV, inV2, scV, mapO, L2.inV, L2.eqV, List.lookup, beq_ofString, ofString_inj, line, f__law_runs_B0, f__law_runs_C0, rI, rM, rE, Op.row, Op.do, rT, hr, iT, hy, hb, hc, hl, slcV, cut, HT.sIx, srSeq, wipeE, Tg.slots, il_snoc, z0, il_set, -L2.ixN, hl3, repL, h]
    · have h' : ¬ (s.calls.length : Int) = 16 := by omega
      refine ⟨n, s.calls ++ [s.place + 2], ?_, fun _ => by simp [Op.do, h]⟩
      simp -implicitDefEqProofs [kSeq_k0, kSeq_k1, xB0, xB1, kAsg_k0, xAsg, kNx_k0, kNxD_k0, kFl2_k0, kFl1_k0, xFld, kSu3_k0, kSu2_k0, kSu1_k0, xSub, xExpr, xRetN, kRet_k0, xRet, kIte_k0, kIte_k1, xIte, kTru_k0, xT, xVar, xCon, xGlo, kBi2_k0, kBi1_k0, xBin, kNeg_k0, xNeg, kCm2_k0, kCm1_k0, xCmp, kIsN_k0, xIsN, kCh4_k0, kCh3_k0, kCh3_k1, kCh2_k0, kCh1_k0, xChain, xAnd, xOr, kAnd_k0, kAnd_k1, kOr_k0, kOr_k1, xAnd1, xAnd2, xOr1, xOr2, kNot_k0, xNot, kIfe_k0, kIfe_k1, xIfe, kLst_k0, xLst, kTup_k0, xTup, kIx2_k0, kIx1_k0, xIdx, kSl3_k0, kSl2_k0, kSl1_k0, xSlc, kOI_k0, xO0, xO1, kBf_k0, xBi, kMe2_k0, kMe1_k0, xMe, kCal_k0, xCall, kMt2_k0, kMt1_k0, xMeth, kMk2_k0, kMk1_k0, xMake, kAt_k0, xAttr, kPi2_k0, kPi1_k0, xPick, kEs2_k0, kEs1_k0, xEs0, xEs1, xC0, xC1, kSq_k0, kRg_k0, kEu_k0, xSq, xRg, xEu, kFn_k0, kFn_k1, kCo3_k0, kCo2_k0, xComp, kB2_k0, kB1_k0, kB1_k1, xCb, noExc_k0, kCF_k0, kCF_k1, xCF0, xCF1, xCI, xFn, okIf, idxV, sqOf, cmpV, cmpN, cmpI, truV, binV, asg, asgs, subV, mkL, mkLn, frzL, frzT, allT, isNB, at0, at1, at2, at3, L2.ixN, biV, eq_int, eq_str, line, lsOf_tl, tpOf_tl, scOf_tl, snap_t, allT_il, tl_fold, tl0, tl1, tl2, il0, il1, il2, il_len, lsO_non, tpO_non, scO_non, lsO_bl, tpO_bl, scO_bl, lsO_int, tpO_int, scO_int, lsO_str, tpO_str, scO_str, lsO_tup, tpO_tup, scO_tup, lsO_lst, tpO_lst, scO_lst, lsO_scr, tpO_scr, scO_scr, lsO_ref, tpO_ref, scO_ref, lsO_Dt, tpO_Dt, scO_Dt, lsO_Dl, tpO_Dl, scO_Dl, objOf, attrV, fldV, setO, putD, methB, meV, isLst, callV, pickV, inV2, scV, mapO, L2.inV, L2.eqV, List.lookup, beq_ofString, ofString_inj, line, f__law_runs_B0, f__law_runs_C0, rI, rM, rE, Op.row, Op.do, rT, hr, iT, hy, hb, hc, hl, slcV, cut, HT.sIx, srSeq, wipeE, Tg.slots, il_snoc, z0, il_set, -L2.ixN, hl3, repL, h, h', il_snoc]
      simp [tl]
  | skip n =>
    obtain ⟨n0, n1⟩ := hg
    simp -implicitDefEqProofs [Op.row, rT, kSeq_k0, kSeq_k1, xB0, xB1, kAsg_k0, xAsg, kNx_k0, kNxD_k0, kFl2_k0, kFl1_k0, xFld, kSu3_k0, kSu2_k0, kSu1_k0, xSub, xExpr, xRetN, kRet_k0, xRet, kIte_k0, kIte_k1, xIte, kTru_k0, xT, xVar, xCon, xGlo, kBi2_k0, kBi1_k0, xBin, kNeg_k0, xNeg, kCm2_k0, kCm1_k0, xCmp, kIsN_k0, xIsN, kCh4_k0, kCh3_k0, kCh3_k1, kCh2_k0, kCh1_k0, xChain, xAnd, xOr, kAnd_k0, kAnd_k1, kOr_k0, kOr_k1, xAnd1, xAnd2, xOr1, xOr2, kNot_k0, xNot, kIfe_k0, kIfe_k1, xIfe, kLst_k0, xLst, kTup_k0, xTup, kIx2_k0, kIx1_k0, xIdx, kSl3_k0, kSl2_k0, kSl1_k0, xSlc, kOI_k0, xO0, xO1, kBf_k0, xBi, kMe2_k0, kMe1_k0, xMe, kCal_k0, xCall, kMt2_k0, kMt1_k0, xMeth, kMk2_k0, kMk1_k0, xMake, kAt_k0, xAttr, kPi2_k0, kPi1_k0, xPick, kEs2_k0, kEs1_k0, xEs0, xEs1, xC0, xC1, kSq_k0, kRg_k0, kEu_k0, xSq, xRg, xEu, kFn_k0, kFn_k1, kCo3_k0, kCo2_k0, xComp, kB2_k0, kB1_k0, kB1_k1, xCb, noExc_k0, kCF_k0, kCF_k1, xCF0, xCF1, xCI, xFn, okIf, idxV, sqOf, cmpV, cmpN, cmpI, truV, binV, asg, asgs, subV, mkL, mkLn, frzL, frzT, allT, isNB, at0, at1, at2, at3, L2.ixN, biV, eq_int, eq_str, line, lsOf_tl, tpOf_tl, scOf_tl, snap_t, allT_il, tl_fold, tl0, tl1, tl2, il0, il1, il2, il_len, lsO_non, tpO_non, scO_non, lsO_bl, tpO_bl, scO_bl, lsO_int, tpO_int, scO_int, lsO_str, tpO_str, scO_str, lsO_tup, tpO_tup, scO_tup, lsO_lst, tpO_lst, scO_lst, lsO_scr, tpO_scr, scO_scr, lsO_ref, tpO_ref, scO_ref, lsO_Dt, tpO_Dt, scO_Dt, lsO_Dl, tpO_Dl, scO_Dl] at hr
    refine ⟨s.place + 2 + (n + 128) % 256 - 128, s.calls, ?_, fun _ => ⟨by show _ = s.place + 2 + (if n ≥ 128 then n - 256 else n); split <;> omega, rfl⟩⟩
    simp -implicitDefEqProofs [kSeq_k0, kSeq_k1, xB0, xB1, kAsg_k0, xAsg, kNx_k0, kNxD_k0, kFl2_k0, kFl1_k0, xFld, kSu3_k0, kSu2_k0, kSu1_k0, xSub, xExpr, xRetN, kRet_k0, xRet, kIte_k0, kIte_k1, xIte, kTru_k0, xT, xVar, xCon, xGlo, kBi2_k0, kBi1_k0, xBin, kNeg_k0, xNeg, kCm2_k0, kCm1_k0, xCmp, kIsN_k0, xIsN, kCh4_k0, kCh3_k0, kCh3_k1, kCh2_k0, kCh1_k0, xChain, xAnd, xOr, kAnd_k0, kAnd_k1, kOr_k0, kOr_k1, xAnd1, xAnd2, xOr1, xOr2, kNot_k0, xNot, kIfe_k0, kIfe_k1, xIfe, kLst_k0, xLst, kTup_k0, xTup, kIx2_k0, kIx1_k0, xIdx, kSl3_k0, kSl2_k0, kSl1_k0, xSlc, kOI_k0, xO0, xO1, kBf_k0, xBi, kMe2_k0, kMe1_k0, xMe, kCal_k0, xCall, kMt2_k0, kMt1_k0, xMeth, kMk2_k0, kMk1_k0, xMake, kAt_k0, xAttr, kPi2_k0, kPi1_k0, xPick, kEs2_k0, kEs1_k0, xEs0, xEs1, xC0, xC1, kSq_k0, kRg_k0, kEu_k0, xSq, xRg, xEu, kFn_k0, kFn_k1, kCo3_k0, kCo2_k0, xComp, kB2_k0, kB1_k0, kB1_k1, xCb, noExc_k0, kCF_k0, kCF_k1, xCF0, xCF1, xCI, xFn, okIf, idxV, sqOf, cmpV, cmpN, cmpI, truV, binV, asg, asgs, subV, mkL, mkLn, frzL, frzT, allT, isNB, at0, at1, at2, at3, L2.ixN, biV, eq_int, eq_str, line, lsOf_tl, tpOf_tl, scOf_tl, snap_t, allT_il, tl_fold, tl0, tl1, tl2, il0, il1, il2, il_len, lsO_non, tpO_non, scO_non, lsO_bl, tpO_bl, scO_bl, lsO_int, tpO_int, scO_int, lsO_str, tpO_str, scO_str, lsO_tup, tpO_tup, scO_tup, lsO_lst, tpO_lst, scO_lst, lsO_scr, tpO_scr, scO_scr, lsO_ref, tpO_ref, scO_ref, lsO_Dt, tpO_Dt, scO_Dt, lsO_Dl, tpO_Dl, scO_Dl, objOf, attrV, fldV, setO, putD, methB, meV, isLst, callV, pickV, inV2, scV, mapO, L2.inV, L2.eqV, List.lookup, beq_ofString, ofString_inj, line, f__law_runs_B0, f__law_runs_C0, rI, rM, rE, Op.row, Op.do, rT, hr, iT, hy, hb, hc, hl, slcV, cut, HT.sIx, srSeq, wipeE, Tg.slots, il_snoc, z0, il_set, -L2.ixN]
  | zero b n =>
    have zb := bo_il hb hg.1
    simp -implicitDefEqProofs [Op.row, rT, kSeq_k0, kSeq_k1, xB0, xB1, kAsg_k0, xAsg, kNx_k0, kNxD_k0, kFl2_k0, kFl1_k0, xFld, kSu3_k0, kSu2_k0, kSu1_k0, xSub, xExpr, xRetN, kRet_k0, xRet, kIte_k0, kIte_k1, xIte, kTru_k0, xT, xVar, xCon, xGlo, kBi2_k0, kBi1_k0, xBin, kNeg_k0, xNeg, kCm2_k0, kCm1_k0, xCmp, kIsN_k0, xIsN, kCh4_k0, kCh3_k0, kCh3_k1, kCh2_k0, kCh1_k0, xChain, xAnd, xOr, kAnd_k0, kAnd_k1, kOr_k0, kOr_k1, xAnd1, xAnd2, xOr1, xOr2, kNot_k0, xNot, kIfe_k0, kIfe_k1, xIfe, kLst_k0, xLst, kTup_k0, xTup, kIx2_k0, kIx1_k0, xIdx, kSl3_k0, kSl2_k0, kSl1_k0, xSlc, kOI_k0, xO0, xO1, kBf_k0, xBi, kMe2_k0, kMe1_k0, xMe, kCal_k0, xCall, kMt2_k0, kMt1_k0, xMeth, kMk2_k0, kMk1_k0, xMake, kAt_k0, xAttr, kPi2_k0, kPi1_k0, xPick, kEs2_k0, kEs1_k0, xEs0, xEs1, xC0, xC1, kSq_k0, kRg_k0, kEu_k0, xSq, xRg, xEu, kFn_k0, kFn_k1, kCo3_k0, kCo2_k0, xComp, kB2_k0, kB1_k0, kB1_k1, xCb, noExc_k0, kCF_k0, kCF_k1, xCF0, xCF1, xCI, xFn, okIf, idxV, sqOf, cmpV, cmpN, cmpI, truV, binV, asg, asgs, subV, mkL, mkLn, frzL, frzT, allT, isNB, at0, at1, at2, at3, L2.ixN, biV, eq_int, eq_str, line, lsOf_tl, tpOf_tl, scOf_tl, snap_t, allT_il, tl_fold, tl0, tl1, tl2, il0, il1, il2, il_len, lsO_non, tpO_non, scO_non, lsO_bl, tpO_bl, scO_bl, lsO_int, tpO_int, scO_int, lsO_str, tpO_str, scO_str, lsO_tup, tpO_tup, scO_tup, lsO_lst, tpO_lst, scO_lst, lsO_scr, tpO_scr, scO_scr, lsO_ref, tpO_ref, scO_ref, lsO_Dt, tpO_Dt, scO_Dt, lsO_Dl, tpO_Dl, scO_Dl] at hr
    by_cases h : at_ s.boxes b = 0
    · refine ⟨n, s.calls, ?_, fun _ => by simp [Op.do, h]⟩
      simp -implicitDefEqProofs [kSeq_k0, kSeq_k1, xB0, xB1, kAsg_k0, xAsg, kNx_k0, kNxD_k0, kFl2_k0, kFl1_k0, xFld, kSu3_k0, kSu2_k0, kSu1_k0, xSub, xExpr, xRetN, kRet_k0, xRet, kIte_k0, kIte_k1, xIte, kTru_k0, xT, xVar, xCon, xGlo, kBi2_k0, kBi1_k0, xBin, kNeg_k0, xNeg, kCm2_k0, kCm1_k0, xCmp, kIsN_k0, xIsN, kCh4_k0, kCh3_k0, kCh3_k1, kCh2_k0, kCh1_k0, xChain, xAnd, xOr, kAnd_k0, kAnd_k1, kOr_k0, kOr_k1, xAnd1, xAnd2, xOr1, xOr2, kNot_k0, xNot, kIfe_k0, kIfe_k1, xIfe, kLst_k0, xLst, kTup_k0, xTup, kIx2_k0, kIx1_k0, xIdx, kSl3_k0, kSl2_k0, kSl1_k0, xSlc, kOI_k0, xO0, xO1, kBf_k0, xBi, kMe2_k0, kMe1_k0, xMe, kCal_k0, xCall, kMt2_k0, kMt1_k0, xMeth, kMk2_k0, kMk1_k0, xMake, kAt_k0, xAttr, kPi2_k0, kPi1_k0, xPick, kEs2_k0, kEs1_k0, xEs0, xEs1, xC0, xC1, kSq_k0, kRg_k0, kEu_k0, xSq, xRg, xEu, kFn_k0, kFn_k1, kCo3_k0, kCo2_k0, xComp, kB2_k0, kB1_k0, kB1_k1, xCb, noExc_k0, kCF_k0, kCF_k1, xCF0, xCF1, xCI, xFn, okIf, idxV, sqOf, cmpV, cmpN, cmpI, truV, binV, asg, asgs, subV, mkL, mkLn, frzL, frzT, allT, isNB, at0, at1, at2, at3, L2.ixN, biV, eq_int, eq_str, line, lsOf_tl, tpOf_tl, scOf_tl, snap_t, allT_il, tl_fold, tl0, tl1, tl2, il0, il1, il2, il_len, lsO_non, tpO_non, scO_non, lsO_bl, tpO_bl, scO_bl, lsO_int, tpO_int, scO_int, lsO_str, tpO_str, scO_str, lsO_tup, tpO_tup, scO_tup, lsO_lst, tpO_lst, scO_lst, lsO_scr, tpO_scr, scO_scr, lsO_ref, tpO_ref, scO_ref, lsO_Dt, tpO_Dt, scO_Dt, lsO_Dl, tpO_Dl, scO_Dl, objOf, attrV, fldV, setO, putD, methB, meV, isLst, callV, pickV, inV2, scV, mapO, L2.inV, L2.eqV, List.lookup, beq_ofString, ofString_inj, line, f__law_runs_B0, f__law_runs_C0, rI, rM, rE, Op.row, Op.do, rT, hr, iT, hy, hb, hc, hl, slcV, cut, HT.sIx, srSeq, wipeE, Tg.slots, il_snoc, z0, il_set, -L2.ixN, zb, h]
    · refine ⟨s.place + 2, s.calls, ?_, fun _ => by simp [Op.do, h]⟩
      simp -implicitDefEqProofs [kSeq_k0, kSeq_k1, xB0, xB1, kAsg_k0, xAsg, kNx_k0, kNxD_k0, kFl2_k0, kFl1_k0, xFld, kSu3_k0, kSu2_k0, kSu1_k0, xSub, xExpr, xRetN, kRet_k0, xRet, kIte_k0, kIte_k1, xIte, kTru_k0, xT, xVar, xCon, xGlo, kBi2_k0, kBi1_k0, xBin, kNeg_k0, xNeg, kCm2_k0, kCm1_k0, xCmp, kIsN_k0, xIsN, kCh4_k0, kCh3_k0, kCh3_k1, kCh2_k0, kCh1_k0, xChain, xAnd, xOr, kAnd_k0, kAnd_k1, kOr_k0, kOr_k1, xAnd1, xAnd2, xOr1, xOr2, kNot_k0, xNot, kIfe_k0, kIfe_k1, xIfe, kLst_k0, xLst, kTup_k0, xTup, kIx2_k0, kIx1_k0, xIdx, kSl3_k0, kSl2_k0, kSl1_k0, xSlc, kOI_k0, xO0, xO1, kBf_k0, xBi, kMe2_k0, kMe1_k0, xMe, kCal_k0, xCall, kMt2_k0, kMt1_k0, xMeth, kMk2_k0, kMk1_k0, xMake, kAt_k0, xAttr, kPi2_k0, kPi1_k0, xPick, kEs2_k0, kEs1_k0, xEs0, xEs1, xC0, xC1, kSq_k0, kRg_k0, kEu_k0, xSq, xRg, xEu, kFn_k0, kFn_k1, kCo3_k0, kCo2_k0, xComp, kB2_k0, kB1_k0, kB1_k1, xCb, noExc_k0, kCF_k0, kCF_k1, xCF0, xCF1, xCI, xFn, okIf, idxV, sqOf, cmpV, cmpN, cmpI, truV, binV, asg, asgs, subV, mkL, mkLn, frzL, frzT, allT, isNB, at0, at1, at2, at3, L2.ixN, biV, eq_int, eq_str, line, lsOf_tl, tpOf_tl, scOf_tl, snap_t, allT_il, tl_fold, tl0, tl1, tl2, il0, il1, il2, il_len, lsO_non, tpO_non, scO_non, lsO_bl, tpO_bl, scO_bl, lsO_int, tpO_int, scO_int, lsO_str, tpO_str, scO_str, lsO_tup, tpO_tup, scO_tup, lsO_lst, tpO_lst, scO_lst, lsO_scr, tpO_scr, scO_scr, lsO_ref, tpO_ref, scO_ref, lsO_Dt, tpO_Dt, scO_Dt, lsO_Dl, tpO_Dl, scO_Dl, objOf, attrV, fldV, setO, putD, methB, meV, isLst, callV, pickV, inV2, scV, mapO, L2.inV, L2.eqV, List.lookup, beq_ofString, ofString_inj, line, f__law_runs_B0, f__law_runs_C0, rI, rM, rE, Op.row, Op.do, rT, hr, iT, hy, hb, hc, hl, slcV, cut, HT.sIx, srSeq, wipeE, Tg.slots, il_snoc, z0, il_set, -L2.ixN, zb, h]
  | same b c n =>
    have zb := bo_il hb hg.1
    have zc := bo_il hb hg.2.1
    simp -implicitDefEqProofs [Op.row, rT, kSeq_k0, kSeq_k1, xB0, xB1, kAsg_k0, xAsg, kNx_k0, kNxD_k0, kFl2_k0, kFl1_k0, xFld, kSu3_k0, kSu2_k0, kSu1_k0, xSub, xExpr, xRetN, kRet_k0, xRet, kIte_k0, kIte_k1, xIte, kTru_k0, xT, xVar, xCon, xGlo, kBi2_k0, kBi1_k0, xBin, kNeg_k0, xNeg, kCm2_k0, kCm1_k0, xCmp, kIsN_k0, xIsN, kCh4_k0, kCh3_k0, kCh3_k1, kCh2_k0, kCh1_k0, xChain, xAnd, xOr, kAnd_k0, kAnd_k1, kOr_k0, kOr_k1, xAnd1, xAnd2, xOr1, xOr2, kNot_k0, xNot, kIfe_k0, kIfe_k1, xIfe, kLst_k0, xLst, kTup_k0, xTup, kIx2_k0, kIx1_k0, xIdx, kSl3_k0, kSl2_k0, kSl1_k0, xSlc, kOI_k0, xO0, xO1, kBf_k0, xBi, kMe2_k0, kMe1_k0, xMe, kCal_k0, xCall, kMt2_k0, kMt1_k0, xMeth, kMk2_k0, kMk1_k0, xMake, kAt_k0, xAttr, kPi2_k0, kPi1_k0, xPick, kEs2_k0, kEs1_k0, xEs0, xEs1, xC0, xC1, kSq_k0, kRg_k0, kEu_k0, xSq, xRg, xEu, kFn_k0, kFn_k1, kCo3_k0, kCo2_k0, xComp, kB2_k0, kB1_k0, kB1_k1, xCb, noExc_k0, kCF_k0, kCF_k1, xCF0, xCF1, xCI, xFn, okIf, idxV, sqOf, cmpV, cmpN, cmpI, truV, binV, asg, asgs, subV, mkL, mkLn, frzL, frzT, allT, isNB, at0, at1, at2, at3, L2.ixN, biV, eq_int, eq_str, line, lsOf_tl, tpOf_tl, scOf_tl, snap_t, allT_il, tl_fold, tl0, tl1, tl2, il0, il1, il2, il_len, lsO_non, tpO_non, scO_non, lsO_bl, tpO_bl, scO_bl, lsO_int, tpO_int, scO_int, lsO_str, tpO_str, scO_str, lsO_tup, tpO_tup, scO_tup, lsO_lst, tpO_lst, scO_lst, lsO_scr, tpO_scr, scO_scr, lsO_ref, tpO_ref, scO_ref, lsO_Dt, tpO_Dt, scO_Dt, lsO_Dl, tpO_Dl, scO_Dl] at hr
    by_cases h : at_ s.boxes b = at_ s.boxes c
    · refine ⟨n, s.calls, ?_, fun _ => by simp [Op.do, h]⟩
      simp -implicitDefEqProofs [kSeq_k0, kSeq_k1, xB0, xB1, kAsg_k0, xAsg, kNx_k0, kNxD_k0, kFl2_k0, kFl1_k0, xFld, kSu3_k0, kSu2_k0, kSu1_k0, xSub, xExpr, xRetN, kRet_k0, xRet, kIte_k0, kIte_k1, xIte, kTru_k0, xT, xVar, xCon, xGlo, kBi2_k0, kBi1_k0, xBin, kNeg_k0, xNeg, kCm2_k0, kCm1_k0, xCmp, kIsN_k0, xIsN, kCh4_k0, kCh3_k0, kCh3_k1, kCh2_k0, kCh1_k0, xChain, xAnd, xOr, kAnd_k0, kAnd_k1, kOr_k0, kOr_k1, xAnd1, xAnd2, xOr1, xOr2, kNot_k0, xNot, kIfe_k0, kIfe_k1, xIfe, kLst_k0, xLst, kTup_k0, xTup, kIx2_k0, kIx1_k0, xIdx, kSl3_k0, kSl2_k0, kSl1_k0, xSlc, kOI_k0, xO0, xO1, kBf_k0, xBi, kMe2_k0, kMe1_k0, xMe, kCal_k0, xCall, kMt2_k0, kMt1_k0, xMeth, kMk2_k0, kMk1_k0, xMake, kAt_k0, xAttr, kPi2_k0, kPi1_k0, xPick, kEs2_k0, kEs1_k0, xEs0, xEs1, xC0, xC1, kSq_k0, kRg_k0, kEu_k0, xSq, xRg, xEu, kFn_k0, kFn_k1, kCo3_k0, kCo2_k0, xComp, kB2_k0, kB1_k0, kB1_k1, xCb, noExc_k0, kCF_k0, kCF_k1, xCF0, xCF1, xCI, xFn, okIf, idxV, sqOf, cmpV, cmpN, cmpI, truV, binV, asg, asgs, subV, mkL, mkLn, frzL, frzT, allT, isNB, at0, at1, at2, at3, L2.ixN, biV, eq_int, eq_str, line, lsOf_tl, tpOf_tl, scOf_tl, snap_t, allT_il, tl_fold, tl0, tl1, tl2, il0, il1, il2, il_len, lsO_non, tpO_non, scO_non, lsO_bl, tpO_bl, scO_bl, lsO_int, tpO_int, scO_int, lsO_str, tpO_str, scO_str, lsO_tup, tpO_tup, scO_tup, lsO_lst, tpO_lst, scO_lst, lsO_scr, tpO_scr, scO_scr, lsO_ref, tpO_ref, scO_ref, lsO_Dt, tpO_Dt, scO_Dt, lsO_Dl, tpO_Dl, scO_Dl, objOf, attrV, fldV, setO, putD, methB, meV, isLst, callV, pickV, inV2, scV, mapO, L2.inV, L2.eqV, List.lookup, beq_ofString, ofString_inj, line, f__law_runs_B0, f__law_runs_C0, rI, rM, rE, Op.row, Op.do, rT, hr, iT, hy, hb, hc, hl, slcV, cut, HT.sIx, srSeq, wipeE, Tg.slots, il_snoc, z0, il_set, -L2.ixN, zb, zc, h]
    · refine ⟨s.place + 2, s.calls, ?_, fun _ => by simp [Op.do, h]⟩
      simp -implicitDefEqProofs [kSeq_k0, kSeq_k1, xB0, xB1, kAsg_k0, xAsg, kNx_k0, kNxD_k0, kFl2_k0, kFl1_k0, xFld, kSu3_k0, kSu2_k0, kSu1_k0, xSub, xExpr, xRetN, kRet_k0, xRet, kIte_k0, kIte_k1, xIte, kTru_k0, xT, xVar, xCon, xGlo, kBi2_k0, kBi1_k0, xBin, kNeg_k0, xNeg, kCm2_k0, kCm1_k0, xCmp, kIsN_k0, xIsN, kCh4_k0, kCh3_k0, kCh3_k1, kCh2_k0, kCh1_k0, xChain, xAnd, xOr, kAnd_k0, kAnd_k1, kOr_k0, kOr_k1, xAnd1, xAnd2, xOr1, xOr2, kNot_k0, xNot, kIfe_k0, kIfe_k1, xIfe, kLst_k0, xLst, kTup_k0, xTup, kIx2_k0, kIx1_k0, xIdx, kSl3_k0, kSl2_k0, kSl1_k0, xSlc, kOI_k0, xO0, xO1, kBf_k0, xBi, kMe2_k0, kMe1_k0, xMe, kCal_k0, xCall, kMt2_k0, kMt1_k0, xMeth, kMk2_k0, kMk1_k0, xMake, kAt_k0, xAttr, kPi2_k0, kPi1_k0, xPick, kEs2_k0, kEs1_k0, xEs0, xEs1, xC0, xC1, kSq_k0, kRg_k0, kEu_k0, xSq, xRg, xEu, kFn_k0, kFn_k1, kCo3_k0, kCo2_k0, xComp, kB2_k0, kB1_k0, kB1_k1, xCb, noExc_k0, kCF_k0, kCF_k1, xCF0, xCF1, xCI, xFn, okIf, idxV, sqOf, cmpV, cmpN, cmpI, truV, binV, asg, asgs, subV, mkL, mkLn, frzL, frzT, allT, isNB, at0, at1, at2, at3, L2.ixN, biV, eq_int, eq_str, line, lsOf_tl, tpOf_tl, scOf_tl, snap_t, allT_il, tl_fold, tl0, tl1, tl2, il0, il1, il2, il_len, lsO_non, tpO_non, scO_non, lsO_bl, tpO_bl, scO_bl, lsO_int, tpO_int, scO_int, lsO_str, tpO_str, scO_str, lsO_tup, tpO_tup, scO_tup, lsO_lst, tpO_lst, scO_lst, lsO_scr, tpO_scr, scO_scr, lsO_ref, tpO_ref, scO_ref, lsO_Dt, tpO_Dt, scO_Dt, lsO_Dl, tpO_Dl, scO_Dl, objOf, attrV, fldV, setO, putD, methB, meV, isLst, callV, pickV, inV2, scV, mapO, L2.inV, L2.eqV, List.lookup, beq_ofString, ofString_inj, line, f__law_runs_B0, f__law_runs_C0, rI, rM, rE, Op.row, Op.do, rT, hr, iT, hy, hb, hc, hl, slcV, cut, HT.sIx, srSeq, wipeE, Tg.slots, il_snoc, z0, il_set, -L2.ixN, zb, zc, h]
  | copy n m =>
    have zn := no_il hc hg.1
    have zi := no_ix hg.2
    simp -implicitDefEqProofs [Op.row, rT, kSeq_k0, kSeq_k1, xB0, xB1, kAsg_k0, xAsg, kNx_k0, kNxD_k0, kFl2_k0, kFl1_k0, xFld, kSu3_k0, kSu2_k0, kSu1_k0, xSub, xExpr, xRetN, kRet_k0, xRet, kIte_k0, kIte_k1, xIte, kTru_k0, xT, xVar, xCon, xGlo, kBi2_k0, kBi1_k0, xBin, kNeg_k0, xNeg, kCm2_k0, kCm1_k0, xCmp, kIsN_k0, xIsN, kCh4_k0, kCh3_k0, kCh3_k1, kCh2_k0, kCh1_k0, xChain, xAnd, xOr, kAnd_k0, kAnd_k1, kOr_k0, kOr_k1, xAnd1, xAnd2, xOr1, xOr2, kNot_k0, xNot, kIfe_k0, kIfe_k1, xIfe, kLst_k0, xLst, kTup_k0, xTup, kIx2_k0, kIx1_k0, xIdx, kSl3_k0, kSl2_k0, kSl1_k0, xSlc, kOI_k0, xO0, xO1, kBf_k0, xBi, kMe2_k0, kMe1_k0, xMe, kCal_k0, xCall, kMt2_k0, kMt1_k0, xMeth, kMk2_k0, kMk1_k0, xMake, kAt_k0, xAttr, kPi2_k0, kPi1_k0, xPick, kEs2_k0, kEs1_k0, xEs0, xEs1, xC0, xC1, kSq_k0, kRg_k0, kEu_k0, xSq, xRg, xEu, kFn_k0, kFn_k1, kCo3_k0, kCo2_k0, xComp, kB2_k0, kB1_k0, kB1_k1, xCb, noExc_k0, kCF_k0, kCF_k1, xCF0, xCF1, xCI, xFn, okIf, idxV, sqOf, cmpV, cmpN, cmpI, truV, binV, asg, asgs, subV, mkL, mkLn, frzL, frzT, allT, isNB, at0, at1, at2, at3, L2.ixN, biV, eq_int, eq_str, line, lsOf_tl, tpOf_tl, scOf_tl, snap_t, allT_il, tl_fold, tl0, tl1, tl2, il0, il1, il2, il_len, lsO_non, tpO_non, scO_non, lsO_bl, tpO_bl, scO_bl, lsO_int, tpO_int, scO_int, lsO_str, tpO_str, scO_str, lsO_tup, tpO_tup, scO_tup, lsO_lst, tpO_lst, scO_lst, lsO_scr, tpO_scr, scO_scr, lsO_ref, tpO_ref, scO_ref, lsO_Dt, tpO_Dt, scO_Dt, lsO_Dl, tpO_Dl, scO_Dl] at hr
    refine ⟨s.place + 3, s.calls, ?_, fun _ => ⟨rfl, rfl⟩⟩
    simp -implicitDefEqProofs [kSeq_k0, kSeq_k1, xB0, xB1, kAsg_k0, xAsg, kNx_k0, kNxD_k0, kFl2_k0, kFl1_k0, xFld, kSu3_k0, kSu2_k0, kSu1_k0, xSub, xExpr, xRetN, kRet_k0, xRet, kIte_k0, kIte_k1, xIte, kTru_k0, xT, xVar, xCon, xGlo, kBi2_k0, kBi1_k0, xBin, kNeg_k0, xNeg, kCm2_k0, kCm1_k0, xCmp, kIsN_k0, xIsN, kCh4_k0, kCh3_k0, kCh3_k1, kCh2_k0, kCh1_k0, xChain, xAnd, xOr, kAnd_k0, kAnd_k1, kOr_k0, kOr_k1, xAnd1, xAnd2, xOr1, xOr2, kNot_k0, xNot, kIfe_k0, kIfe_k1, xIfe, kLst_k0, xLst, kTup_k0, xTup, kIx2_k0, kIx1_k0, xIdx, kSl3_k0, kSl2_k0, kSl1_k0, xSlc, kOI_k0, xO0, xO1, kBf_k0, xBi, kMe2_k0, kMe1_k0, xMe, kCal_k0, xCall, kMt2_k0, kMt1_k0, xMeth, kMk2_k0, kMk1_k0, xMake, kAt_k0, xAttr, kPi2_k0, kPi1_k0, xPick, kEs2_k0, kEs1_k0, xEs0, xEs1, xC0, xC1, kSq_k0, kRg_k0, kEu_k0, xSq, xRg, xEu, kFn_k0, kFn_k1, kCo3_k0, kCo2_k0, xComp, kB2_k0, kB1_k0, kB1_k1, xCb, noExc_k0, kCF_k0, kCF_k1, xCF0, xCF1, xCI, xFn, okIf, idxV, sqOf, cmpV, cmpN, cmpI, truV, binV, asg, asgs, subV, mkL, mkLn, frzL, frzT, allT, isNB, at0, at1, at2, at3, L2.ixN, biV, eq_int, eq_str, line, lsOf_tl, tpOf_tl, scOf_tl, snap_t, allT_il, tl_fold, tl0, tl1, tl2, il0, il1, il2, il_len, lsO_non, tpO_non, scO_non, lsO_bl, tpO_bl, scO_bl, lsO_int, tpO_int, scO_int, lsO_str, tpO_str, scO_str, lsO_tup, tpO_tup, scO_tup, lsO_lst, tpO_lst, scO_lst, lsO_scr, tpO_scr, scO_scr, lsO_ref, tpO_ref, scO_ref, lsO_Dt, tpO_Dt, scO_Dt, lsO_Dl, tpO_Dl, scO_Dl, objOf, attrV, fldV, setO, putD, methB, meV, isLst, callV, pickV, inV2, scV, mapO, L2.inV, L2.eqV, List.lookup, beq_ofString, ofString_inj, line, f__law_runs_B0, f__law_runs_C0, rI, rM, rE, Op.row, Op.do, rT, hr, iT, hy, hb, hc, hl, slcV, cut, HT.sIx, srSeq, wipeE, Tg.slots, il_snoc, z0, il_set, -L2.ixN, zn, zi]
end Rw.K02
end

section
set_option Elab.async false
set_option linter.all false
set_option maxRecDepth 100000
set_option maxHeartbeats 0
/-! k02: the law's own run, whole -/
namespace Rw.K02
open PySem
variable {k : Nat} {ws : List Int} {s : Mc}
def RE (ws : List Int) (b most : Int) (s : Mc) (r : En) (M : Ar) : Prop := M = rM s ∧ ∃ pl cl x0 x1 x2 x3 x4 x5 x6 x7 x8 x9, (s.why = "" → pl = s.place ∧ cl = s.calls) ∧ r = rI ws b most pl cl s.why x0 x1 x2 x3 x4 x5 x6 x7 x8 x9
theorem runs_step (hw : Ws ws) (ok : s.ok) (hp : s.past.length < 1000) (hy : s.why = "") {b most : Int} {r : En} {M : Ar} (h : RE ws b most s r M) :
    ∃ r' M', evB pg (run pg fns (k + 2)) f__law_runs_B0 r M = .ok (.nx r') M' ∧ RE ws b most (stepF ws s) r' M' := by
  obtain ⟨rfl, pl, cl, x0, x1, x2, x3, x4, x5, x6, x7, x8, x9, e, rfl⟩ := h
  obtain ⟨rfl, rfl⟩ := e hy
  rw [hy]
  cases q : rowF ws s.place with
  | none =>
    have hr := read_ok k (p := s.place) hw
    rw [q] at hr
    have es : stepF ws s = { s with why := if 0 ≤ s.place ∧ s.place < ws.length then "none" else "end" } := by unfold stepF; rw [q]
    rw [es]
    refine ⟨rI ws b most s.place s.calls (if 0 ≤ s.place ∧ s.place < ws.length then "none" else "end") (some (.t .non)) x1 x2 x3 x4 x5 x6 x7 x8 x9, rM s, ?_, rfl, s.place, s.calls, _, _, _, _, _, _, _, _, _, _, fun z => ⟨rfl, rfl⟩, rfl⟩
    by_cases h0 : 0 ≤ s.place
    · by_cases h1 : s.place < ws.length
      · simp -implicitDefEqProofs [kSeq_k0, kSeq_k1, xB0, xB1, kAsg_k0, xAsg, kNx_k0, kNxD_k0, kFl2_k0, kFl1_k0, xFld, kSu3_k0, kSu2_k0, kSu1_k0, xSub, xExpr, xRetN, kRet_k0, xRet, kIte_k0, kIte_k1, xIte, kTru_k0, xT, xVar, xCon, xGlo, kBi2_k0, kBi1_k0, xBin, kNeg_k0, xNeg, kCm2_k0, kCm1_k0, xCmp, kIsN_k0, xIsN, kCh4_k0, kCh3_k0, kCh3_k1, kCh2_k0, kCh1_k0, xChain, xAnd, xOr, kAnd_k0, kAnd_k1, kOr_k0, kOr_k1, xAnd1, xAnd2, xOr1, xOr2, kNot_k0, xNot, kIfe_k0, kIfe_k1, xIfe, kLst_k0, xLst, kTup_k0, xTup, kIx2_k0, kIx1_k0, xIdx, kSl3_k0, kSl2_k0, kSl1_k0, xSlc, kOI_k0, xO0, xO1, kBf_k0, xBi, kMe2_k0, kMe1_k0, xMe, kCal_k0, xCall, kMt2_k0, kMt1_k0, xMeth, kMk2_k0, kMk1_k0, xMake, kAt_k0, xAttr, kPi2_k0, kPi1_k0, xPick, kEs2_k0, kEs1_k0, xEs0, xEs1, xC0, xC1, kSq_k0, kRg_k0, kEu_k0, xSq, xRg, xEu, kFn_k0, kFn_k1, kCo3_k0, kCo2_k0, xComp, kB2_k0, kB1_k0, kB1_k1, xCb, noExc_k0, kCF_k0, kCF_k1, xCF0, xCF1, xCI, xFn, okIf, idxV, sqOf, cmpV, cmpN, cmpI, truV, binV, asg, asgs, subV, mkL, mkLn, frzL, frzT, allT, isNB, at0, at1, at2, at3, L2.ixN, biV, eq_int, eq_str, line, lsOf_tl, tpOf_tl, scOf_tl, snap_t, allT_il, tl_fold, tl0, tl1, tl2, il0, il1, il2, il_len, lsO_non, tpO_non, scO_non, lsO_bl, tpO_bl, scO_bl, lsO_int, tpO_int, scO_int, lsO_str, tpO_str, scO_str, lsO_tup, tpO_tup, scO_tup, lsO_lst, tpO_lst, scO_lst, lsO_scr, tpO_scr, scO_scr, lsO_ref, tpO_ref, scO_ref, lsO_Dt, tpO_Dt, scO_Dt, lsO_Dl, tpO_Dl, scO_Dl, objOf, attrV, fldV, setO, putD, methB, meV, isLst, callV, pickV, inV2, scV, mapO, L2.inV, L2.eqV, List.lookup, beq_ofString, ofString_inj, line, f__law_runs_B0, rI, rM, hr, rT, h0, h1]
      · simp -implicitDefEqProofs [kSeq_k0, kSeq_k1, xB0, xB1, kAsg_k0, xAsg, kNx_k0, kNxD_k0, kFl2_k0, kFl1_k0, xFld, kSu3_k0, kSu2_k0, kSu1_k0, xSub, xExpr, xRetN, kRet_k0, xRet, kIte_k0, kIte_k1, xIte, kTru_k0, xT, xVar, xCon, xGlo, kBi2_k0, kBi1_k0, xBin, kNeg_k0, xNeg, kCm2_k0, kCm1_k0, xCmp, kIsN_k0, xIsN, kCh4_k0, kCh3_k0, kCh3_k1, kCh2_k0, kCh1_k0, xChain, xAnd, xOr, kAnd_k0, kAnd_k1, kOr_k0, kOr_k1, xAnd1, xAnd2, xOr1, xOr2, kNot_k0, xNot, kIfe_k0, kIfe_k1, xIfe, kLst_k0, xLst, kTup_k0, xTup, kIx2_k0, kIx1_k0, xIdx, kSl3_k0, kSl2_k0, kSl1_k0, xSlc, kOI_k0, xO0, xO1, kBf_k0, xBi, kMe2_k0, kMe1_k0, xMe, kCal_k0, xCall, kMt2_k0, kMt1_k0, xMeth, kMk2_k0, kMk1_k0, xMake, kAt_k0, xAttr, kPi2_k0, kPi1_k0, xPick, kEs2_k0, kEs1_k0, xEs0, xEs1, xC0, xC1, kSq_k0, kRg_k0, kEu_k0, xSq, xRg, xEu, kFn_k0, kFn_k1, kCo3_k0, kCo2_k0, xComp, kB2_k0, kB1_k0, kB1_k1, xCb, noExc_k0, kCF_k0, kCF_k1, xCF0, xCF1, xCI, xFn, okIf, idxV, sqOf, cmpV, cmpN, cmpI, truV, binV, asg, asgs, subV, mkL, mkLn, frzL, frzT, allT, isNB, at0, at1, at2, at3, L2.ixN, biV, eq_int, eq_str, line, lsOf_tl, tpOf_tl, scOf_tl, snap_t, allT_il, tl_fold, tl0, tl1, tl2, il0, il1, il2, il_len, lsO_non, tpO_non, scO_non, lsO_bl, tpO_bl, scO_bl, lsO_int, tpO_int, scO_int, lsO_str, tpO_str, scO_str, lsO_tup, tpO_tup, scO_tup, lsO_lst, tpO_lst, scO_lst, lsO_scr, tpO_scr, scO_scr, lsO_ref, tpO_ref, scO_ref, lsO_Dt, tpO_Dt, scO_Dt, lsO_Dl, tpO_Dl, scO_Dl, objOf, attrV, fldV, setO, putD, methB, meV, isLst, callV, pickV, inV2, scV, mapO, L2.inV, L2.eqV, List.lookup, beq_ofString, ofString_inj, line, f__law_runs_B0, rI, rM, hr, rT, h0, h1]
    · simp -implicitDefEqProofs [kSeq_k0, kSeq_k1, xB0, xB1, kAsg_k0, xAsg, kNx_k0, kNxD_k0, kFl2_k0, kFl1_k0, xFld, kSu3_k0, kSu2_k0, kSu1_k0, xSub, xExpr, xRetN, kRet_k0, xRet, kIte_k0, kIte_k1, xIte, kTru_k0, xT, xVar, xCon, xGlo, kBi2_k0, kBi1_k0, xBin, kNeg_k0, xNeg, kCm2_k0, kCm1_k0, xCmp, kIsN_k0, xIsN, kCh4_k0, kCh3_k0, kCh3_k1, kCh2_k0, kCh1_k0, xChain, xAnd, xOr, kAnd_k0, kAnd_k1, kOr_k0, kOr_k1, xAnd1, xAnd2, xOr1, xOr2, kNot_k0, xNot, kIfe_k0, kIfe_k1, xIfe, kLst_k0, xLst, kTup_k0, xTup, kIx2_k0, kIx1_k0, xIdx, kSl3_k0, kSl2_k0, kSl1_k0, xSlc, kOI_k0, xO0, xO1, kBf_k0, xBi, kMe2_k0, kMe1_k0, xMe, kCal_k0, xCall, kMt2_k0, kMt1_k0, xMeth, kMk2_k0, kMk1_k0, xMake, kAt_k0, xAttr, kPi2_k0, kPi1_k0, xPick, kEs2_k0, kEs1_k0, xEs0, xEs1, xC0, xC1, kSq_k0, kRg_k0, kEu_k0, xSq, xRg, xEu, kFn_k0, kFn_k1, kCo3_k0, kCo2_k0, xComp, kB2_k0, kB1_k0, kB1_k1, xCb, noExc_k0, kCF_k0, kCF_k1, xCF0, xCF1, xCI, xFn, okIf, idxV, sqOf, cmpV, cmpN, cmpI, truV, binV, asg, asgs, subV, mkL, mkLn, frzL, frzT, allT, isNB, at0, at1, at2, at3, L2.ixN, biV, eq_int, eq_str, line, lsOf_tl, tpOf_tl, scOf_tl, snap_t, allT_il, tl_fold, tl0, tl1, tl2, il0, il1, il2, il_len, lsO_non, tpO_non, scO_non, lsO_bl, tpO_bl, scO_bl, lsO_int, tpO_int, scO_int, lsO_str, tpO_str, scO_str, lsO_tup, tpO_tup, scO_tup, lsO_lst, tpO_lst, scO_lst, lsO_scr, tpO_scr, scO_scr, lsO_ref, tpO_ref, scO_ref, lsO_Dt, tpO_Dt, scO_Dt, lsO_Dl, tpO_Dl, scO_Dl, objOf, attrV, fldV, setO, putD, methB, meV, isLst, callV, pickV, inV2, scV, mapO, L2.inV, L2.eqV, List.lookup, beq_ofString, ofString_inj, line, f__law_runs_B0, rI, rM, hr, rT, h0]
  | some r =>
    obtain ⟨o, hg, rfl⟩ := row_op hw q
    have es : stepF ws s = o.do { s with past := s.past ++ [s.place] } := by unfold stepF; rw [q]; show (opOf o.row).do _ = _; rw [opOf_row]
    rw [es]
    obtain ⟨pl, cl, e1, e2⟩ := runs_do (k := k) o hg ok hp hy q hw (b := b) (most := most) (x0 := x0) (x1 := x1) (x2 := x2) (x3 := x3) (x4 := x4) (x5 := x5) (x6 := x6) (x7 := x7) (x8 := x8) (x9 := x9)
    exact ⟨_, _, e1, rfl, pl, cl, _, _, _, _, _, _, _, _, _, _, e2, rfl⟩
theorem runs_ok {b : Int} {most : Nat} (hw : Ws ws) (hl : ws.length ≤ 256) (hm : most ≤ 1000) :
    run pg fns (k + 3) 90 [.t (tl ws), .t (.int b), .t (.int most)] [] = .ok (.tup [.ref 2, .t (.str (Str.ofString (finF ws b most).why)), .ref 3]) (rM (finF ws b most)) := by
  rw [run_at (fn := f__law_runs) (by kernel_rfl)]
  have key := whl_sim (c := evT pg (run pg fns (k + 2)) (.and [(.cmp .eq (.var 9) (.con (.str ""))), (.cmp .lt (.bi .len [(.var 8)]) (.var 2))])) (b := evB pg (run pg fns (k + 2)) f__law_runs_B0)
    (fun (s : {s : Mc // Reach ws most s}) r M => RE ws b most s.1 r M)
    (fun s => goF most s.1) (fun s => if h : goF most s.1 = true then ⟨stepF ws s.1, (reach_step s.2 h).1⟩ else s) (fun s => muF most s.1)
    (fun s r M h => by
      obtain ⟨rfl, pl, cl, x0, x1, x2, x3, x4, x5, x6, x7, x8, x9, e, rfl⟩ := h
      unfold goF
      by_cases h1 : s.1.why = "" <;> by_cases h2 : s.1.past.length < most <;> simp -implicitDefEqProofs [kSeq_k0, kSeq_k1, xB0, xB1, kAsg_k0, xAsg, kNx_k0, kNxD_k0, kFl2_k0, kFl1_k0, xFld, kSu3_k0, kSu2_k0, kSu1_k0, xSub, xExpr, xRetN, kRet_k0, xRet, kIte_k0, kIte_k1, xIte, kTru_k0, xT, xVar, xCon, xGlo, kBi2_k0, kBi1_k0, xBin, kNeg_k0, xNeg, kCm2_k0, kCm1_k0, xCmp, kIsN_k0, xIsN, kCh4_k0, kCh3_k0, kCh3_k1, kCh2_k0, kCh1_k0, xChain, xAnd, xOr, kAnd_k0, kAnd_k1, kOr_k0, kOr_k1, xAnd1, xAnd2, xOr1, xOr2, kNot_k0, xNot, kIfe_k0, kIfe_k1, xIfe, kLst_k0, xLst, kTup_k0, xTup, kIx2_k0, kIx1_k0, xIdx, kSl3_k0, kSl2_k0, kSl1_k0, xSlc, kOI_k0, xO0, xO1, kBf_k0, xBi, kMe2_k0, kMe1_k0, xMe, kCal_k0, xCall, kMt2_k0, kMt1_k0, xMeth, kMk2_k0, kMk1_k0, xMake, kAt_k0, xAttr, kPi2_k0, kPi1_k0, xPick, kEs2_k0, kEs1_k0, xEs0, xEs1, xC0, xC1, kSq_k0, kRg_k0, kEu_k0, xSq, xRg, xEu, kFn_k0, kFn_k1, kCo3_k0, kCo2_k0, xComp, kB2_k0, kB1_k0, kB1_k1, xCb, noExc_k0, kCF_k0, kCF_k1, xCF0, xCF1, xCI, xFn, okIf, idxV, sqOf, cmpV, cmpN, cmpI, truV, binV, asg, asgs, subV, mkL, mkLn, frzL, frzT, allT, isNB, at0, at1, at2, at3, L2.ixN, biV, eq_int, eq_str, line, lsOf_tl, tpOf_tl, scOf_tl, snap_t, allT_il, tl_fold, tl0, tl1, tl2, il0, il1, il2, il_len, lsO_non, tpO_non, scO_non, lsO_bl, tpO_bl, scO_bl, lsO_int, tpO_int, scO_int, lsO_str, tpO_str, scO_str, lsO_tup, tpO_tup, scO_tup, lsO_lst, tpO_lst, scO_lst, lsO_scr, tpO_scr, scO_scr, lsO_ref, tpO_ref, scO_ref, lsO_Dt, tpO_Dt, scO_Dt, lsO_Dl, tpO_Dl, scO_Dl, objOf, attrV, fldV, setO, putD, methB, meV, isLst, callV, pickV, inV2, scV, mapO, L2.inV, L2.eqV, List.lookup, beq_ofString, ofString_inj, line, rI, rM, h1, h2])
    (fun s r M h g => by
      have g' : goF most s.1 = true := g
      have hp : s.1.past.length < most := of_decide_eq_true (ba2 g').2
      have hy : s.1.why = "" := of_decide_eq_true (ba2 g').1
      obtain ⟨r', M', e1, e2⟩ := runs_step (k := k) hw (s.2.iv.ok (by omega)) (by omega) hy h
      exact ⟨r', M', e1, by rw [dif_pos g']; exact e2⟩)
    (fun s g => by
      have g' : goF most s.1 = true := g
      show muF most (if h : goF most s.1 = true then (⟨stepF ws s.1, (reach_step s.2 h).1⟩ : {s : Mc // Reach ws most s}) else s).1 < _
      rw [dif_pos g']
      exact (reach_step s.2 g').2)
    (most + 1) wfuel ⟨initF ws b, init_reach hl⟩ (rI ws b most b [] "" none none none none none none none none none none) (rM (initF ws b)) (by show muF most (initF ws b) ≤ _; unfold muF initF; simp; omega) (by unfold wfuel; omega) ⟨rfl, b, [], _, _, _, _, _, _, _, _, _, _, fun _ => ⟨rfl, rfl⟩, rfl⟩
  obtain ⟨r', M', e, rfl, pl, cl, x0, x1, x2, x3, x4, x5, x6, x7, x8, x9, _, rfl⟩ := key
  have it : ∀ n (s : {s : Mc // Reach ws most s}), (iter (fun s : {s : Mc // Reach ws most s} => goF most s.1) (fun s => if h : goF most s.1 = true then ⟨stepF ws s.1, (reach_step s.2 h).1⟩ else s) n s).1 = iter (goF most) (stepF ws) n s.1 := by
    intro n
    induction n with
    | zero => intro s; rfl
    | succ n ih =>
      intro s
      unfold iter
      by_cases g : goF most s.1 = true
      · rw [if_pos g, if_pos g, ih, dif_pos g]
      · rw [if_neg g, if_neg g]
  rw [it] at e
  have e2 : evS pg (run pg fns (k + 2)) f__law_runs_L0 (rI ws b most b [] "" none none none none none none none none none none) (rM (initF ws b)) = .ok (.nx (rI ws b most pl cl (finF ws b most).why x0 x1 x2 x3 x4 x5 x6 x7 x8 x9)) (rM (finF ws b most)) := by
    unfold f__law_runs_L0
    rw [evS_whl]
    exact e
  have h1 : (-9223372036854775808 : Int) ≤ 256 - ws.length := by omega
  have h2 : (256 : Int) - ws.length < 9223372036854775808 := by omega
  have h3 : ((256 : Int) - ws.length).toNat = 256 - ws.length := by omega
  have h4 : ws.length + (256 - ws.length) ≤ 16777216 := by omega
  have h5 : 256 - ws.length ≤ 16777216 := by omega
  have e4 : il [0, 0, 0, 0] = [D.t (.int 0), D.t (.int 0), D.t (.int 0), D.t (.int 0)] := rfl
  simp only [rI, rM, initF, e4, il0, tl0] at e2 ⊢
  simp -implicitDefEqProofs [kSeq_k0, kSeq_k1, xB0, xB1, kAsg_k0, xAsg, kNx_k0, kNxD_k0, kFl2_k0, kFl1_k0, xFld, kSu3_k0, kSu2_k0, kSu1_k0, xSub, xExpr, xRetN, kRet_k0, xRet, kIte_k0, kIte_k1, xIte, kTru_k0, xT, xVar, xCon, xGlo, kBi2_k0, kBi1_k0, xBin, kNeg_k0, xNeg, kCm2_k0, kCm1_k0, xCmp, kIsN_k0, xIsN, kCh4_k0, kCh3_k0, kCh3_k1, kCh2_k0, kCh1_k0, xChain, xAnd, xOr, kAnd_k0, kAnd_k1, kOr_k0, kOr_k1, xAnd1, xAnd2, xOr1, xOr2, kNot_k0, xNot, kIfe_k0, kIfe_k1, xIfe, kLst_k0, xLst, kTup_k0, xTup, kIx2_k0, kIx1_k0, xIdx, kSl3_k0, kSl2_k0, kSl1_k0, xSlc, kOI_k0, xO0, xO1, kBf_k0, xBi, kMe2_k0, kMe1_k0, xMe, kCal_k0, xCall, kMt2_k0, kMt1_k0, xMeth, kMk2_k0, kMk1_k0, xMake, kAt_k0, xAttr, kPi2_k0, kPi1_k0, xPick, kEs2_k0, kEs1_k0, xEs0, xEs1, xC0, xC1, kSq_k0, kRg_k0, kEu_k0, xSq, xRg, xEu, kFn_k0, kFn_k1, kCo3_k0, kCo2_k0, xComp, kB2_k0, kB1_k0, kB1_k1, xCb, noExc_k0, kCF_k0, kCF_k1, xCF0, xCF1, xCI, xFn, okIf, idxV, sqOf, cmpV, cmpN, cmpI, truV, binV, asg, asgs, subV, mkL, mkLn, frzL, frzT, allT, isNB, at0, at1, at2, at3, L2.ixN, biV, eq_int, eq_str, line, lsOf_tl, tpOf_tl, scOf_tl, snap_t, allT_il, tl_fold, tl0, tl1, tl2, il0, il1, il2, il_len, lsO_non, tpO_non, scO_non, lsO_bl, tpO_bl, scO_bl, lsO_int, tpO_int, scO_int, lsO_str, tpO_str, scO_str, lsO_tup, tpO_tup, scO_tup, lsO_lst, tpO_lst, scO_lst, lsO_scr, tpO_scr, scO_scr, lsO_ref, tpO_ref, scO_ref, lsO_Dt, tpO_Dt, scO_Dt, lsO_Dl, tpO_Dl, scO_Dl, objOf, attrV, fldV, setO, putD, methB, meV, isLst, callV, pickV, inV2, scV, mapO, L2.inV, L2.eqV, List.lookup, beq_ofString, ofString_inj, line, f__law_runs, repL, h1, h2, h3, h4, h5, rep_flat, il_rep, il_app, e2]
end Rw.K02
end

section
set_option Elab.async false
set_option linter.all false
set_option maxRecDepth 100000
set_option maxHeartbeats 0
/-! k02: the law's own sameness -/
namespace Rw.K02
open PySem
variable {k : Nat}
theorem eq_bl (M : Ar) (a b : Bool) (k : Bool → Bool) : eqV2 M (.t (.bl a)) (.t (.bl b)) k = .ok (.t (.bl (k (a == b)))) M := rfl
theorem small_ok {i : Int} (h0 : -4611686018427387904 ≤ i) (h1 : i < 4611686018427387904) : small i = true := by
  unfold small
  rw [decide_eq_true (show -(2 ^ 62) ≤ i by omega), decide_eq_true (show i < 2 ^ 62 by omega)]
  rfl
theorem srRng_ok {i : Int} {M : Ar} (h : small i = true) : srRng [.t (.int i)] M = .ok (.fix (rngL 0 i)) M := by
  show okIf (small i) (Res.ok (Itm.fix (rngL 0 i)) M) = _
  rw [h]
  rfl
theorem fn_same : fns 85 = some f__law_same := by kernel_rfl
theorem atI_map {xs : List T} {i : Nat} {x : T} (h : xs[i]? = some x) : L2.atI (xs.map D.t) ((i : Nat) : Int) = some (.t x) := by
  have hi := (List.getElem?_eq_some_iff.mp h).1
  unfold L2.atI
  rw [ixN_pos (by omega) (by simp; omega)]
  show (xs.map D.t)[((i : Nat) : Int).toNat]? = _
  rw [Int.toNat_natCast, List.getElem?_map, h]
  rfl
theorem cmpF_none {b : D → Ar → Res (Option D)} {M : Ar} : ∀ (l : List D) (acc : List D), (∀ d ∈ l, b d M = .ok none M) → cmpF b l acc M = .ok acc M
  | [], acc, _ => rfl
  | d :: l, acc, h => by
    rw [xCF1, h d List.mem_cons_self, kCF_k0]
    exact cmpF_none l acc fun d hd => h d (List.mem_cons_of_mem _ hd)
theorem same_c {xs : List T} {y : T} (hy : y = .lst xs ∨ y = .tup xs) (hx : ∀ x ∈ xs, run pg fns k 85 [.t x, .t x] [] = .ok (.t (.bl true)) []) : cmpItm (cmpBody pg (run pg fns k) (.var 3) (some (.not (.call .peek 85 [(.idx (.var 0) (.var 3)), (.idx (.var 1) (.var 3))]))) (.var 3) [some (.t y), some (.t y), none, none]) (.fix (rngL 0 xs.length)) [] = .ok [] [] := by
  rw [xCI]
  refine cmpF_none _ _ fun d hd => ?_
  unfold rngL at hd
  obtain ⟨i, hi, rfl⟩ := List.mem_map.mp hd
  rw [List.mem_range] at hi
  have hi' : i < xs.length := by omega
  have ha := atI_map (List.getElem?_eq_getElem hi')
  have hz := hx _ (List.getElem_mem hi')
  rcases hy with rfl | rfl <;> simp -implicitDefEqProofs [kSeq_k0, kSeq_k1, xB0, xB1, kAsg_k0, xAsg, kNx_k0, kNxD_k0, kFl2_k0, kFl1_k0, xFld, kSu3_k0, kSu2_k0, kSu1_k0, xSub, xExpr, xRetN, kRet_k0, xRet, kIte_k0, kIte_k1, xIte, kTru_k0, xT, xVar, xCon, xGlo, kBi2_k0, kBi1_k0, xBin, kNeg_k0, xNeg, kCm2_k0, kCm1_k0, xCmp, kIsN_k0, xIsN, kCh4_k0, kCh3_k0, kCh3_k1, kCh2_k0, kCh1_k0, xChain, xAnd, xOr, kAnd_k0, kAnd_k1, kOr_k0, kOr_k1, xAnd1, xAnd2, xOr1, xOr2, kNot_k0, xNot, kIfe_k0, kIfe_k1, xIfe, kLst_k0, xLst, kTup_k0, xTup, kIx2_k0, kIx1_k0, xIdx, kSl3_k0, kSl2_k0, kSl1_k0, xSlc, kOI_k0, xO0, xO1, kBf_k0, xBi, kMe2_k0, kMe1_k0, xMe, kCal_k0, xCall, kMt2_k0, kMt1_k0, xMeth, kMk2_k0, kMk1_k0, xMake, kAt_k0, xAttr, kPi2_k0, kPi1_k0, xPick, kEs2_k0, kEs1_k0, xEs0, xEs1, xC0, xC1, kSq_k0, kRg_k0, kEu_k0, xSq, xRg, xEu, kFn_k0, kFn_k1, kCo3_k0, kCo2_k0, xComp, kB2_k0, kB1_k0, kB1_k1, xCb, noExc_k0, kCF_k0, kCF_k1, xCF0, xCF1, xCI, xFn, okIf, idxV, sqOf, cmpV, cmpN, cmpI, truV, binV, asg, asgs, subV, mkL, mkLn, frzL, frzT, allT, isNB, at0, at1, at2, at3, L2.ixN, biV, eq_int, eq_str, line, lsOf_tl, tpOf_tl, scOf_tl, snap_t, allT_il, tl_fold, tl0, tl1, tl2, il0, il1, il2, il_len, lsO_non, tpO_non, scO_non, lsO_bl, tpO_bl, scO_bl, lsO_int, tpO_int, scO_int, lsO_str, tpO_str, scO_str, lsO_tup, tpO_tup, scO_tup, lsO_lst, tpO_lst, scO_lst, lsO_scr, tpO_scr, scO_scr, lsO_ref, tpO_ref, scO_ref, lsO_Dt, tpO_Dt, scO_Dt, lsO_Dl, tpO_Dl, scO_Dl, objOf, attrV, fldV, setO, putD, methB, meV, isLst, callV, pickV, inV2, scV, mapO, L2.inV, L2.eqV, List.lookup, beq_ofString, ofString_inj, line, wipeE, Tg.slots, ha, hz]
theorem same_seq {xs : List T} {y : T} (hy : y = .lst xs ∨ y = .tup xs) (hx : ∀ x ∈ xs, run pg fns k 85 [.t x, .t x] [] = .ok (.t (.bl true)) []) (hn : (xs.length : Int) < 4611686018427387904) : run pg fns (k + 1) 85 [.t y, .t y] [] = .ok (.t (.bl true)) [] := by
  rw [run_at fn_same]
  have hn0 : (-4611686018427387904 : Int) ≤ (xs.length : Int) := by omega
  have hs := small_ok hn0 hn
  have hc := same_c (k := k) hy hx
  rcases hy with rfl | rfl <;> simp -implicitDefEqProofs [kSeq_k0, kSeq_k1, xB0, xB1, kAsg_k0, xAsg, kNx_k0, kNxD_k0, kFl2_k0, kFl1_k0, xFld, kSu3_k0, kSu2_k0, kSu1_k0, xSub, xExpr, xRetN, kRet_k0, xRet, kIte_k0, kIte_k1, xIte, kTru_k0, xT, xVar, xCon, xGlo, kBi2_k0, kBi1_k0, xBin, kNeg_k0, xNeg, kCm2_k0, kCm1_k0, xCmp, kIsN_k0, xIsN, kCh4_k0, kCh3_k0, kCh3_k1, kCh2_k0, kCh1_k0, xChain, xAnd, xOr, kAnd_k0, kAnd_k1, kOr_k0, kOr_k1, xAnd1, xAnd2, xOr1, xOr2, kNot_k0, xNot, kIfe_k0, kIfe_k1, xIfe, kLst_k0, xLst, kTup_k0, xTup, kIx2_k0, kIx1_k0, xIdx, kSl3_k0, kSl2_k0, kSl1_k0, xSlc, kOI_k0, xO0, xO1, kBf_k0, xBi, kMe2_k0, kMe1_k0, xMe, kCal_k0, xCall, kMt2_k0, kMt1_k0, xMeth, kMk2_k0, kMk1_k0, xMake, kAt_k0, xAttr, kPi2_k0, kPi1_k0, xPick, kEs2_k0, kEs1_k0, xEs0, xEs1, xC0, xC1, kSq_k0, kRg_k0, kEu_k0, xSq, xRg, xEu, kFn_k0, kFn_k1, kCo3_k0, kCo2_k0, xComp, kB2_k0, kB1_k0, kB1_k1, xCb, noExc_k0, kCF_k0, kCF_k1, xCF0, xCF1, xCI, xFn, okIf, idxV, sqOf, cmpV, cmpN, cmpI, truV, binV, asg, asgs, subV, mkL, mkLn, frzL, frzT, allT, isNB, at0, at1, at2, at3, L2.ixN, biV, eq_int, eq_str, line, lsOf_tl, tpOf_tl, scOf_tl, snap_t, allT_il, tl_fold, tl0, tl1, tl2, il0, il1, il2, il_len, lsO_non, tpO_non, scO_non, lsO_bl, tpO_bl, scO_bl, lsO_int, tpO_int, scO_int, lsO_str, tpO_str, scO_str, lsO_tup, tpO_tup, scO_tup, lsO_lst, tpO_lst, scO_lst, lsO_scr, tpO_scr, scO_scr, lsO_ref, tpO_ref, scO_ref, lsO_Dt, tpO_Dt, scO_Dt, lsO_Dl, tpO_Dl, scO_Dl, objOf, attrV, fldV, setO, putD, methB, meV, isLst, callV, pickV, inV2, scV, mapO, L2.inV, L2.eqV, List.lookup, beq_ofString, ofString_inj, line, f__law_same, f__law_same_C0, isV, tyD, tyT, isTy, srRng_ok hs, hc, eq_nil2, eq_bl]
theorem same_int (i : Int) : run pg fns (k + 1) 85 [.t (.int i), .t (.int i)] [] = .ok (.t (.bl true)) [] := by
  rw [run_at fn_same]
  simp -implicitDefEqProofs [kSeq_k0, kSeq_k1, xB0, xB1, kAsg_k0, xAsg, kNx_k0, kNxD_k0, kFl2_k0, kFl1_k0, xFld, kSu3_k0, kSu2_k0, kSu1_k0, xSub, xExpr, xRetN, kRet_k0, xRet, kIte_k0, kIte_k1, xIte, kTru_k0, xT, xVar, xCon, xGlo, kBi2_k0, kBi1_k0, xBin, kNeg_k0, xNeg, kCm2_k0, kCm1_k0, xCmp, kIsN_k0, xIsN, kCh4_k0, kCh3_k0, kCh3_k1, kCh2_k0, kCh1_k0, xChain, xAnd, xOr, kAnd_k0, kAnd_k1, kOr_k0, kOr_k1, xAnd1, xAnd2, xOr1, xOr2, kNot_k0, xNot, kIfe_k0, kIfe_k1, xIfe, kLst_k0, xLst, kTup_k0, xTup, kIx2_k0, kIx1_k0, xIdx, kSl3_k0, kSl2_k0, kSl1_k0, xSlc, kOI_k0, xO0, xO1, kBf_k0, xBi, kMe2_k0, kMe1_k0, xMe, kCal_k0, xCall, kMt2_k0, kMt1_k0, xMeth, kMk2_k0, kMk1_k0, xMake, kAt_k0, xAttr, kPi2_k0, kPi1_k0, xPick, kEs2_k0, kEs1_k0, xEs0, xEs1, xC0, xC1, kSq_k0, kRg_k0, kEu_k0, xSq, xRg, xEu, kFn_k0, kFn_k1, kCo3_k0, kCo2_k0, xComp, kB2_k0, kB1_k0, kB1_k1, xCb, noExc_k0, kCF_k0, kCF_k1, xCF0, xCF1, xCI, xFn, okIf, idxV, sqOf, cmpV, cmpN, cmpI, truV, binV, asg, asgs, subV, mkL, mkLn, frzL, frzT, allT, isNB, at0, at1, at2, at3, L2.ixN, biV, eq_int, eq_str, line, lsOf_tl, tpOf_tl, scOf_tl, snap_t, allT_il, tl_fold, tl0, tl1, tl2, il0, il1, il2, il_len, lsO_non, tpO_non, scO_non, lsO_bl, tpO_bl, scO_bl, lsO_int, tpO_int, scO_int, lsO_str, tpO_str, scO_str, lsO_tup, tpO_tup, scO_tup, lsO_lst, tpO_lst, scO_lst, lsO_scr, tpO_scr, scO_scr, lsO_ref, tpO_ref, scO_ref, lsO_Dt, tpO_Dt, scO_Dt, lsO_Dl, tpO_Dl, scO_Dl, objOf, attrV, fldV, setO, putD, methB, meV, isLst, callV, pickV, inV2, scV, mapO, L2.inV, L2.eqV, List.lookup, beq_ofString, ofString_inj, line, f__law_same, isV, tyD, tyT, isTy, eq_bl]
theorem same_str (s : String) : run pg fns (k + 1) 85 [.t (.str (Str.ofString s)), .t (.str (Str.ofString s))] [] = .ok (.t (.bl true)) [] := by
  rw [run_at fn_same]
  simp -implicitDefEqProofs [kSeq_k0, kSeq_k1, xB0, xB1, kAsg_k0, xAsg, kNx_k0, kNxD_k0, kFl2_k0, kFl1_k0, xFld, kSu3_k0, kSu2_k0, kSu1_k0, xSub, xExpr, xRetN, kRet_k0, xRet, kIte_k0, kIte_k1, xIte, kTru_k0, xT, xVar, xCon, xGlo, kBi2_k0, kBi1_k0, xBin, kNeg_k0, xNeg, kCm2_k0, kCm1_k0, xCmp, kIsN_k0, xIsN, kCh4_k0, kCh3_k0, kCh3_k1, kCh2_k0, kCh1_k0, xChain, xAnd, xOr, kAnd_k0, kAnd_k1, kOr_k0, kOr_k1, xAnd1, xAnd2, xOr1, xOr2, kNot_k0, xNot, kIfe_k0, kIfe_k1, xIfe, kLst_k0, xLst, kTup_k0, xTup, kIx2_k0, kIx1_k0, xIdx, kSl3_k0, kSl2_k0, kSl1_k0, xSlc, kOI_k0, xO0, xO1, kBf_k0, xBi, kMe2_k0, kMe1_k0, xMe, kCal_k0, xCall, kMt2_k0, kMt1_k0, xMeth, kMk2_k0, kMk1_k0, xMake, kAt_k0, xAttr, kPi2_k0, kPi1_k0, xPick, kEs2_k0, kEs1_k0, xEs0, xEs1, xC0, xC1, kSq_k0, kRg_k0, kEu_k0, xSq, xRg, xEu, kFn_k0, kFn_k1, kCo3_k0, kCo2_k0, xComp, kB2_k0, kB1_k0, kB1_k1, xCb, noExc_k0, kCF_k0, kCF_k1, xCF0, xCF1, xCI, xFn, okIf, idxV, sqOf, cmpV, cmpN, cmpI, truV, binV, asg, asgs, subV, mkL, mkLn, frzL, frzT, allT, isNB, at0, at1, at2, at3, L2.ixN, biV, eq_int, eq_str, line, lsOf_tl, tpOf_tl, scOf_tl, snap_t, allT_il, tl_fold, tl0, tl1, tl2, il0, il1, il2, il_len, lsO_non, tpO_non, scO_non, lsO_bl, tpO_bl, scO_bl, lsO_int, tpO_int, scO_int, lsO_str, tpO_str, scO_str, lsO_tup, tpO_tup, scO_tup, lsO_lst, tpO_lst, scO_lst, lsO_scr, tpO_scr, scO_scr, lsO_ref, tpO_ref, scO_ref, lsO_Dt, tpO_Dt, scO_Dt, lsO_Dl, tpO_Dl, scO_Dl, objOf, attrV, fldV, setO, putD, methB, meV, isLst, callV, pickV, inV2, scV, mapO, L2.inV, L2.eqV, List.lookup, beq_ofString, ofString_inj, line, f__law_same, isV, tyD, tyT, isTy, eq_bl]
theorem same_tl (l : List Int) (hn : (l.length : Int) < 4611686018427387904) : run pg fns (k + 2) 85 [.t (tl l), .t (tl l)] [] = .ok (.t (.bl true)) [] := by
  refine same_seq (k := k + 1) (xs := l.map T.int) (.inl rfl) (fun x hx => ?_) (by simpa using hn)
  obtain ⟨i, _, rfl⟩ := List.mem_map.mp hx
  exact same_int i
def fT (s : Mc) : T := .tup [tl s.says, .str (Str.ofString s.why), tl s.past]
theorem same_fin (s : Mc) (h1 : s.says.length ≤ 1000) (h2 : s.past.length ≤ 1000) : run pg fns (k + 3) 85 [.t (fT s), .t (fT s)] [] = .ok (.t (.bl true)) [] := by
  refine same_seq (k := k + 2) (xs := [tl s.says, .str (Str.ofString s.why), tl s.past]) (.inr rfl) (fun x hx => ?_) (by simp)
  simp only [List.mem_cons, List.not_mem_nil, or_false] at hx
  rcases hx with rfl | rfl | rfl
  · exact same_tl _ (by omega)
  · exact same_str _
  · exact same_tl _ (by omega)
theorem fin_len {ws : List Int} {b : Int} {most : Nat} (hl : ws.length ≤ 256) (hm : most ≤ 1000) : (finF ws b most).says.length ≤ 1000 ∧ (finF ws b most).past.length ≤ 1000 := by
  have h : Reach ws most (finF ws b most) := iter_inv (Reach ws most) (fun s hs g => (reach_step hs g).1) _ _ (init_reach hl)
  have := h.iv.y
  have := h.p
  omega
end Rw.K02
end

section
set_option Elab.async false
set_option linter.all false
set_option maxRecDepth 100000
set_option maxHeartbeats 0
/-! k02: the law's own words -/
namespace Rw.K02
open PySem
variable {k : Nat} {ns : List Int}
theorem fn_drawn : fns 84 = some f_drawn := by kernel_rfl
theorem fn_any : fns 89 = some f__law_any_words := by kernel_rfl
theorem dr {o : MO} {n : Int} {rest : Ar} (hs : Stt ns o) (h2 : 0 < n) (h3 : n < 1073741824) :
    ∃ (v : Int) (o' : MO), run pg fns (k + 1) 84 [.ref 0, .t (.int n)] (o :: rest) = .ok (.t (.int v)) (o' :: rest) ∧ 0 ≤ v ∧ v < n ∧ Stt ns o' := drawn_ok fn_drawn hs h2 h3
def aE (sm many : D) (x5 x6 x7 x8 x9 x10 x11 : Option D) : En := [some (.ref 0), some sm, some many, some (.ref 1), some (.t (.lst (cds.map cT))), x5, x6, x7, x8, x9, x10, x11]
theorem Ws.snoc {f : List Int} {w : Int} (h : Ws f) (h0 : 0 ≤ w) (h1 : w < 256) : Ws (f ++ [w]) := by
  intro x hx
  rcases List.mem_append.mp hx with h2 | h2
  · exact h x h2
  · rw [List.mem_singleton.mp h2]; exact ⟨h0, h1⟩
/-- one further word -/
theorem any_more {o : MO} {f : List Int} {many : Int} {sm : D} {op : String} {x5 x7 x8 x9 x10 x11 : Option D} {dd : D} (hs : Stt ns o) (hf : Ws f) (hm0 : 0 ≤ many) (hm1 : many ≤ 256) (hl : f.length < 1000) :
    ∃ (w : Int) (o' : MO) (x : Option D), forBody pg (run pg fns (k + 1)) (.var 10) f__law_any_words_B0 dd (aE sm (.t (.int many)) x5 (some (.t (.str (Str.ofString op)))) x7 x8 x9 x10 x11) [o, .lst (il f)] = .ok (.nx (aE sm (.t (.int many)) x5 (some (.t (.str (Str.ofString op)))) x7 x8 x9 (some dd) x)) [o', .lst (il (f ++ [w]))] ∧ Stt ns o' ∧ 0 ≤ w ∧ w < 256 := by
  obtain ⟨v1, o1, e1, a1, b1, s1⟩ := dr (k := k) (rest := [.lst (il f)]) (n := many + 2) hs (by omega) (by omega)
  obtain ⟨v2, o2, e2, a2, b2, s2⟩ := dr (k := k) (rest := [.lst (il f)]) (n := 5) s1 (by omega) (by omega)
  obtain ⟨v3, o3, e3, a3, b3, s3⟩ := dr (k := k) (rest := [.lst (il f)]) (n := 256) s2 (by omega) (by omega)
  have hl' : f.length < 16777216 := by omega
  by_cases ho : op = "skip"
  · obtain ⟨v4, o4, e4, a4, b4, s4⟩ := dr (k := k) (rest := [.lst (il f)]) (n := 12) s3 (by omega) (by omega)
    refine ⟨(v4 - 6) % 256, o4, some (.t (.lst [.int v1, .int (f.length + v2 - 2), .int v3])), ?_, s4, by omega, by omega⟩
    simp -implicitDefEqProofs [kSeq_k0, kSeq_k1, xB0, xB1, kAsg_k0, xAsg, kNx_k0, kNxD_k0, kFl2_k0, kFl1_k0, xFld, kSu3_k0, kSu2_k0, kSu1_k0, xSub, xExpr, xRetN, kRet_k0, xRet, kIte_k0, kIte_k1, xIte, kTru_k0, xT, xVar, xCon, xGlo, kBi2_k0, kBi1_k0, xBin, kNeg_k0, xNeg, kCm2_k0, kCm1_k0, xCmp, kIsN_k0, xIsN, kCh4_k0, kCh3_k0, kCh3_k1, kCh2_k0, kCh1_k0, xChain, xAnd, xOr, kAnd_k0, kAnd_k1, kOr_k0, kOr_k1, xAnd1, xAnd2, xOr1, xOr2, kNot_k0, xNot, kIfe_k0, kIfe_k1, xIfe, kLst_k0, xLst, kTup_k0, xTup, kIx2_k0, kIx1_k0, xIdx, kSl3_k0, kSl2_k0, kSl1_k0, xSlc, kOI_k0, xO0, xO1, kBf_k0, xBi, kMe2_k0, kMe1_k0, xMe, kCal_k0, xCall, kMt2_k0, kMt1_k0, xMeth, kMk2_k0, kMk1_k0, xMake, kAt_k0, xAttr, kPi2_k0, kPi1_k0, xPick, kEs2_k0, kEs1_k0, xEs0, xEs1, xC0, xC1, kSq_k0, kRg_k0, kEu_k0, xSq, xRg, xEu, kFn_k0, kFn_k1, kCo3_k0, kCo2_k0, xComp, kB2_k0, kB1_k0, kB1_k1, xCb, noExc_k0, kCF_k0, kCF_k1, xCF0, xCF1, xCI, xFn, okIf, idxV, sqOf, cmpV, cmpN, cmpI, truV, binV, asg, asgs, subV, mkL, mkLn, frzL, frzT, allT, isNB, at0, at1, at2, at3, L2.ixN, biV, eq_int, eq_str, line, lsOf_tl, tpOf_tl, scOf_tl, snap_t, allT_il, tl_fold, tl0, tl1, tl2, il0, il1, il2, il_len, lsO_non, tpO_non, scO_non, lsO_bl, tpO_bl, scO_bl, lsO_int, tpO_int, scO_int, lsO_str, tpO_str, scO_str, lsO_tup, tpO_tup, scO_tup, lsO_lst, tpO_lst, scO_lst, lsO_scr, tpO_scr, scO_scr, lsO_ref, tpO_ref, scO_ref, lsO_Dt, tpO_Dt, scO_Dt, lsO_Dl, tpO_Dl, scO_Dl, objOf, attrV, fldV, setO, putD, methB, meV, isLst, callV, pickV, inV2, scV, mapO, L2.inV, L2.eqV, List.lookup, beq_ofString, ofString_inj, line, forBody, f__law_any_words_B0, aE, e1, e2, e3, e4, ho, hl', il_snoc]
  · obtain ⟨v4, o4, e4, a4, b4, s4⟩ := dr (k := k) (rest := [.lst (il f)]) (n := 3) s3 (by omega) (by omega)
    have hc : v4 = 0 ∨ v4 = 1 ∨ v4 = 2 := by omega
    rcases hc with rfl | rfl | rfl
    · refine ⟨v1 % 256, o4, some (.t (.lst [.int v1, .int (f.length + v2 - 2), .int v3])), ?_, s4, by omega, by omega⟩
      simp -implicitDefEqProofs [kSeq_k0, kSeq_k1, xB0, xB1, kAsg_k0, xAsg, kNx_k0, kNxD_k0, kFl2_k0, kFl1_k0, xFld, kSu3_k0, kSu2_k0, kSu1_k0, xSub, xExpr, xRetN, kRet_k0, xRet, kIte_k0, kIte_k1, xIte, kTru_k0, xT, xVar, xCon, xGlo, kBi2_k0, kBi1_k0, xBin, kNeg_k0, xNeg, kCm2_k0, kCm1_k0, xCmp, kIsN_k0, xIsN, kCh4_k0, kCh3_k0, kCh3_k1, kCh2_k0, kCh1_k0, xChain, xAnd, xOr, kAnd_k0, kAnd_k1, kOr_k0, kOr_k1, xAnd1, xAnd2, xOr1, xOr2, kNot_k0, xNot, kIfe_k0, kIfe_k1, xIfe, kLst_k0, xLst, kTup_k0, xTup, kIx2_k0, kIx1_k0, xIdx, kSl3_k0, kSl2_k0, kSl1_k0, xSlc, kOI_k0, xO0, xO1, kBf_k0, xBi, kMe2_k0, kMe1_k0, xMe, kCal_k0, xCall, kMt2_k0, kMt1_k0, xMeth, kMk2_k0, kMk1_k0, xMake, kAt_k0, xAttr, kPi2_k0, kPi1_k0, xPick, kEs2_k0, kEs1_k0, xEs0, xEs1, xC0, xC1, kSq_k0, kRg_k0, kEu_k0, xSq, xRg, xEu, kFn_k0, kFn_k1, kCo3_k0, kCo2_k0, xComp, kB2_k0, kB1_k0, kB1_k1, xCb, noExc_k0, kCF_k0, kCF_k1, xCF0, xCF1, xCI, xFn, okIf, idxV, sqOf, cmpV, cmpN, cmpI, truV, binV, asg, asgs, subV, mkL, mkLn, frzL, frzT, allT, isNB, at0, at1, at2, at3, L2.ixN, biV, eq_int, eq_str, line, lsOf_tl, tpOf_tl, scOf_tl, snap_t, allT_il, tl_fold, tl0, tl1, tl2, il0, il1, il2, il_len, lsO_non, tpO_non, scO_non, lsO_bl, tpO_bl, scO_bl, lsO_int, tpO_int, scO_int, lsO_str, tpO_str, scO_str, lsO_tup, tpO_tup, scO_tup, lsO_lst, tpO_lst, scO_lst, lsO_scr, tpO_scr, scO_scr, lsO_ref, tpO_ref, scO_ref, lsO_Dt, tpO_Dt, scO_Dt, lsO_Dl, tpO_Dl, scO_Dl, objOf, attrV, fldV, setO, putD, methB, meV, isLst, callV, pickV, inV2, scV, mapO, L2.inV, L2.eqV, List.lookup, beq_ofString, ofString_inj, line, forBody, f__law_any_words_B0, aE, e1, e2, e3, e4, ho, hl', il_snoc]
    · refine ⟨(f.length + v2 - 2) % 256, o4, some (.t (.lst [.int v1, .int (f.length + v2 - 2), .int v3])), ?_, s4, by omega, by omega⟩
      simp -implicitDefEqProofs [kSeq_k0, kSeq_k1, xB0, xB1, kAsg_k0, xAsg, kNx_k0, kNxD_k0, kFl2_k0, kFl1_k0, xFld, kSu3_k0, kSu2_k0, kSu1_k0, xSub, xExpr, xRetN, kRet_k0, xRet, kIte_k0, kIte_k1, xIte, kTru_k0, xT, xVar, xCon, xGlo, kBi2_k0, kBi1_k0, xBin, kNeg_k0, xNeg, kCm2_k0, kCm1_k0, xCmp, kIsN_k0, xIsN, kCh4_k0, kCh3_k0, kCh3_k1, kCh2_k0, kCh1_k0, xChain, xAnd, xOr, kAnd_k0, kAnd_k1, kOr_k0, kOr_k1, xAnd1, xAnd2, xOr1, xOr2, kNot_k0, xNot, kIfe_k0, kIfe_k1, xIfe, kLst_k0, xLst, kTup_k0, xTup, kIx2_k0, kIx1_k0, xIdx, kSl3_k0, kSl2_k0, kSl1_k0, xSlc, kOI_k0, xO0, xO1, kBf_k0, xBi, kMe2_k0, kMe1_k0, xMe, kCal_k0, xCall, kMt2_k0, kMt1_k0, xMeth, kMk2_k0, kMk1_k0, xMake, kAt_k0, xAttr, kPi2_k0, kPi1_k0, xPick, kEs2_k0, kEs1_k0, xEs0, xEs1, xC0, xC1, kSq_k0, kRg_k0, kEu_k0, xSq, xRg, xEu, kFn_k0, kFn_k1, kCo3_k0, kCo2_k0, xComp, kB2_k0, kB1_k0, kB1_k1, xCb, noExc_k0, kCF_k0, kCF_k1, xCF0, xCF1, xCI, xFn, okIf, idxV, sqOf, cmpV, cmpN, cmpI, truV, binV, asg, asgs, subV, mkL, mkLn, frzL, frzT, allT, isNB, at0, at1, at2, at3, L2.ixN, biV, eq_int, eq_str, line, lsOf_tl, tpOf_tl, scOf_tl, snap_t, allT_il, tl_fold, tl0, tl1, tl2, il0, il1, il2, il_len, lsO_non, tpO_non, scO_non, lsO_bl, tpO_bl, scO_bl, lsO_int, tpO_int, scO_int, lsO_str, tpO_str, scO_str, lsO_tup, tpO_tup, scO_tup, lsO_lst, tpO_lst, scO_lst, lsO_scr, tpO_scr, scO_scr, lsO_ref, tpO_ref, scO_ref, lsO_Dt, tpO_Dt, scO_Dt, lsO_Dl, tpO_Dl, scO_Dl, objOf, attrV, fldV, setO, putD, methB, meV, isLst, callV, pickV, inV2, scV, mapO, L2.inV, L2.eqV, List.lookup, beq_ofString, ofString_inj, line, forBody, f__law_any_words_B0, aE, e1, e2, e3, e4, ho, hl', il_snoc]
    · refine ⟨v3 % 256, o4, some (.t (.lst [.int v1, .int (f.length + v2 - 2), .int v3])), ?_, s4, by omega, by omega⟩
      simp -implicitDefEqProofs [kSeq_k0, kSeq_k1, xB0, xB1, kAsg_k0, xAsg, kNx_k0, kNxD_k0, kFl2_k0, kFl1_k0, xFld, kSu3_k0, kSu2_k0, kSu1_k0, xSub, xExpr, xRetN, kRet_k0, xRet, kIte_k0, kIte_k1, xIte, kTru_k0, xT, xVar, xCon, xGlo, kBi2_k0, kBi1_k0, xBin, kNeg_k0, xNeg, kCm2_k0, kCm1_k0, xCmp, kIsN_k0, xIsN, kCh4_k0, kCh3_k0, kCh3_k1, kCh2_k0, kCh1_k0, xChain, xAnd, xOr, kAnd_k0, kAnd_k1, kOr_k0, kOr_k1, xAnd1, xAnd2, xOr1, xOr2, kNot_k0, xNot, kIfe_k0, kIfe_k1, xIfe, kLst_k0, xLst, kTup_k0, xTup, kIx2_k0, kIx1_k0, xIdx, kSl3_k0, kSl2_k0, kSl1_k0, xSlc, kOI_k0, xO0, xO1, kBf_k0, xBi, kMe2_k0, kMe1_k0, xMe, kCal_k0, xCall, kMt2_k0, kMt1_k0, xMeth, kMk2_k0, kMk1_k0, xMake, kAt_k0, xAttr, kPi2_k0, kPi1_k0, xPick, kEs2_k0, kEs1_k0, xEs0, xEs1, xC0, xC1, kSq_k0, kRg_k0, kEu_k0, xSq, xRg, xEu, kFn_k0, kFn_k1, kCo3_k0, kCo2_k0, xComp, kB2_k0, kB1_k0, kB1_k1, xCb, noExc_k0, kCF_k0, kCF_k1, xCF0, xCF1, xCI, xFn, okIf, idxV, sqOf, cmpV, cmpN, cmpI, truV, binV, asg, asgs, subV, mkL, mkLn, frzL, frzT, allT, isNB, at0, at1, at2, at3, L2.ixN, biV, eq_int, eq_str, line, lsOf_tl, tpOf_tl, scOf_tl, snap_t, allT_il, tl_fold, tl0, tl1, tl2, il0, il1, il2, il_len, lsO_non, tpO_non, scO_non, lsO_bl, tpO_bl, scO_bl, lsO_int, tpO_int, scO_int, lsO_str, tpO_str, scO_str, lsO_tup, tpO_tup, scO_tup, lsO_lst, tpO_lst, scO_lst, lsO_scr, tpO_scr, scO_scr, lsO_ref, tpO_ref, scO_ref, lsO_Dt, tpO_Dt, scO_Dt, lsO_Dl, tpO_Dl, scO_Dl, objOf, attrV, fldV, setO, putD, methB, meV, isLst, callV, pickV, inV2, scV, mapO, L2.inV, L2.eqV, List.lookup, beq_ofString, ofString_inj, line, forBody, f__law_any_words_B0, aE, e1, e2, e3, e4, ho, hl', il_snoc]
theorem any_mores {many : Int} {sm : D} {op : String} {x5 x7 x8 x9 : Option D} (hm0 : 0 ≤ many) (hm1 : many ≤ 256) : ∀ (l : List D) (o : MO) (f : List Int) (x10 x11 : Option D), Stt ns o → Ws f → f.length + l.length < 1000 →
    ∃ (f' : List Int) (o' : MO) (y10 y11 : Option D), forF (forBody pg (run pg fns (k + 1)) (.var 10) f__law_any_words_B0) l (aE sm (.t (.int many)) x5 (some (.t (.str (Str.ofString op)))) x7 x8 x9 x10 x11) [o, .lst (il f)] = .ok (.nx (aE sm (.t (.int many)) x5 (some (.t (.str (Str.ofString op)))) x7 x8 x9 y10 y11)) [o', .lst (il f')] ∧ Stt ns o' ∧ Ws f' ∧ f'.length = f.length + l.length
  | [], o, f, x10, x11, hs, hf, _ => ⟨f, o, x10, x11, rfl, hs, hf, rfl⟩
  | dd :: l, o, f, x10, x11, hs, hf, hl => by
    rw [List.length_cons] at hl
    obtain ⟨w, o1, x, e, s1, a1, b1⟩ := any_more (k := k) (sm := sm) (op := op) (x5 := x5) (x7 := x7) (x8 := x8) (x9 := x9) (x10 := x10) (x11 := x11) (dd := dd) hs hf hm0 hm1 (by omega)
    obtain ⟨f', o', y10, y11, e2, s2, w2, l2⟩ := any_mores hm0 hm1 l o1 (f ++ [w]) (some dd) x s1 (hf.snoc a1 b1) (by simp; omega)
    refine ⟨f', o', y10, y11, ?_, s2, w2, by rw [l2]; simp; omega⟩
    rw [forF_nx e]
    exact e2
def aI (many : Int) (sm : D) (m : Nat) (r : En) (M : Ar) : Prop := ∃ o f x5 x6 x7 x8 x9 x10 x11, Stt ns o ∧ Ws f ∧ f.length < 300 ∧ m = (many - f.length).toNat ∧ r = aE sm (.t (.int many)) x5 x6 x7 x8 x9 x10 x11 ∧ M = [o, .lst (il f)]
theorem cds_ok : cds.all (fun c => decide (c.2.2.1 = 0 ∨ c.2.2.1 = 1 ∨ c.2.2.1 = 2) && decide (0 ≤ c.2.1) && decide (c.2.1 ≤ 128) && decide (0 ≤ c.2.2.2) && decide (c.2.2.2 ≤ 2)) = true := by decide +kernel
theorem rngL_len {n : Int} : (rngL 0 n).length = n.toNat := by simp [rngL]
theorem cds_at {i : Int} (h0 : 0 ≤ i) (h1 : i < 15) : ∃ (op : String) (base : Int) (bx : Nat) (more : Int), L2.atI ((cds.map cT).map D.t) i = some (.t (cT (op, base, bx, more))) ∧ (bx = 0 ∨ bx = 1 ∨ bx = 2) ∧ 0 ≤ base ∧ base ≤ 128 ∧ 0 ≤ more ∧ more ≤ 2 := by
  have hi : i.toNat < cds.length := by show i.toNat < 15; omega
  have hk := List.all_eq_true.mp cds_ok _ (List.getElem_mem hi)
  have ha := atI_map (xs := cds.map cT) (i := i.toNat) (x := cT cds[i.toNat]) (by rw [List.getElem?_map, List.getElem?_eq_getElem hi]; rfl)
  rw [Int.toNat_of_nonneg h0] at ha
  generalize cds[i.toNat] = c at ha hk
  obtain ⟨op, base, bx, more⟩ := c
  simp only [Bool.and_eq_true, decide_eq_true_eq] at hk
  exact ⟨op, base, bx, more, ha, hk.1.1.1.1, hk.1.1.1.2, hk.1.1.2, hk.1.2, hk.2⟩
theorem any_step {many : Int} {sm : D} (hm0 : 0 ≤ many) (hm1 : many ≤ 256) {m : Nat} {r : En} {M : Ar} (h : aI (ns := ns) many sm m r M) :
    (∃ M1, evT pg (run pg fns (k + 1)) (.cmp .lt (.bi .len [(.var 3)]) (.var 2)) r M = .ok false M1 ∧ (M1 = M ∧ ∃ m, aI (ns := ns) many sm m r M)) ∨
    ∃ M1 r' M' m', evT pg (run pg fns (k + 1)) (.cmp .lt (.bi .len [(.var 3)]) (.var 2)) r M = .ok true M1 ∧ evB pg (run pg fns (k + 1)) f__law_any_words_B1 r M1 = .ok (.nx r') M' ∧ m' < m ∧ aI (ns := ns) many sm m' r' M' := by
  obtain ⟨o, f, x5, x6, x7, x8, x9, x10, x11, hs, hf, hl, rfl, rfl, rfl⟩ := h
  by_cases hlt : (f.length : Int) < many
  · right
    refine ⟨[o, .lst (il f)], ?_⟩
    have hl' : f.length < 16777216 := by omega
    have ec : evT pg (run pg fns (k + 1)) (.cmp .lt (.bi .len [(.var 3)]) (.var 2)) (aE sm (.t (.int many)) x5 x6 x7 x8 x9 x10 x11) [o, .lst (il f)] = .ok true [o, .lst (il f)] := by
      simp -implicitDefEqProofs [kSeq_k0, kSeq_k1, xB0, xB1, kAsg_k0, xAsg, kNx_k0, kNxD_k0, kFl2_k0, kFl1_k0, xFld, kSu3_k0, kSu2_k0, kSu1_k0, xSub, xExpr, xRetN, kRet_k0, xRet, kIte_k0, kIte_k1, xIte, kTru_k0, xT, xVar, xCon, xGlo, kBi2_k0, kBi1_k0, xBin, kNeg_k0, xNeg, kCm2_k0, kCm1_k0, xCmp, kIsN_k0, xIsN, kCh4_k0, kCh3_k0, kCh3_k1, kCh2_k0, kCh1_k0, xChain, xAnd, xOr, kAnd_k0, kAnd_k1, kOr_k0, kOr_k1, xAnd1, xAnd2, xOr1, xOr2, kNot_k0, xNot, kIfe_k0, kIfe_k1, xIfe, kLst_k0, xLst, kTup_k0, xTup, kIx2_k0, kIx1_k0, xIdx, kSl3_k0, kSl2_k0, kSl1_k0, xSlc, kOI_k0, xO0, xO1, kBf_k0, xBi, kMe2_k0, kMe1_k0, xMe, kCal_k0, xCall, kMt2_k0, kMt1_k0, xMeth, kMk2_k0, kMk1_k0, xMake, kAt_k0, xAttr, kPi2_k0, kPi1_k0, xPick, kEs2_k0, kEs1_k0, xEs0, xEs1, xC0, xC1, kSq_k0, kRg_k0, kEu_k0, xSq, xRg, xEu, kFn_k0, kFn_k1, kCo3_k0, kCo2_k0, xComp, kB2_k0, kB1_k0, kB1_k1, xCb, noExc_k0, kCF_k0, kCF_k1, xCF0, xCF1, xCI, xFn, okIf, idxV, sqOf, cmpV, cmpN, cmpI, truV, binV, asg, asgs, subV, mkL, mkLn, frzL, frzT, allT, isNB, at0, at1, at2, at3, L2.ixN, biV, eq_int, eq_str, line, lsOf_tl, tpOf_tl, scOf_tl, snap_t, allT_il, tl_fold, tl0, tl1, tl2, il0, il1, il2, il_len, lsO_non, tpO_non, scO_non, lsO_bl, tpO_bl, scO_bl, lsO_int, tpO_int, scO_int, lsO_str, tpO_str, scO_str, lsO_tup, tpO_tup, scO_tup, lsO_lst, tpO_lst, scO_lst, lsO_scr, tpO_scr, scO_scr, lsO_ref, tpO_ref, scO_ref, lsO_Dt, tpO_Dt, scO_Dt, lsO_Dl, tpO_Dl, scO_Dl, objOf, attrV, fldV, setO, putD, methB, meV, isLst, callV, pickV, inV2, scV, mapO, L2.inV, L2.eqV, List.lookup, beq_ofString, ofString_inj, line, aE, hlt]
    obtain ⟨v1, o1, e1, a1, b1, s1⟩ := dr (k := k) (rest := [.lst (il f)]) (n := 5) hs (by omega) (by omega)
    by_cases h0 : v1 = 0
    · obtain ⟨v2, o2, e2, a2, b2, s2⟩ := dr (k := k) (rest := [.lst (il f)]) (n := 256) s1 (by omega) (by omega)
      refine ⟨aE sm (.t (.int many)) (some (.t (.int v1))) x6 x7 x8 x9 x10 x11, [o2, .lst (il (f ++ [v2]))], _, ec, ?_, ?_, o2, f ++ [v2], _, _, _, _, _, _, _, s2, hf.snoc a2 b2, by simp; omega, rfl, rfl, rfl⟩
      · simp -implicitDefEqProofs [kSeq_k0, kSeq_k1, xB0, xB1, kAsg_k0, xAsg, kNx_k0, kNxD_k0, kFl2_k0, kFl1_k0, xFld, kSu3_k0, kSu2_k0, kSu1_k0, xSub, xExpr, xRetN, kRet_k0, xRet, kIte_k0, kIte_k1, xIte, kTru_k0, xT, xVar, xCon, xGlo, kBi2_k0, kBi1_k0, xBin, kNeg_k0, xNeg, kCm2_k0, kCm1_k0, xCmp, kIsN_k0, xIsN, kCh4_k0, kCh3_k0, kCh3_k1, kCh2_k0, kCh1_k0, xChain, xAnd, xOr, kAnd_k0, kAnd_k1, kOr_k0, kOr_k1, xAnd1, xAnd2, xOr1, xOr2, kNot_k0, xNot, kIfe_k0, kIfe_k1, xIfe, kLst_k0, xLst, kTup_k0, xTup, kIx2_k0, kIx1_k0, xIdx, kSl3_k0, kSl2_k0, kSl1_k0, xSlc, kOI_k0, xO0, xO1, kBf_k0, xBi, kMe2_k0, kMe1_k0, xMe, kCal_k0, xCall, kMt2_k0, kMt1_k0, xMeth, kMk2_k0, kMk1_k0, xMake, kAt_k0, xAttr, kPi2_k0, kPi1_k0, xPick, kEs2_k0, kEs1_k0, xEs0, xEs1, xC0, xC1, kSq_k0, kRg_k0, kEu_k0, xSq, xRg, xEu, kFn_k0, kFn_k1, kCo3_k0, kCo2_k0, xComp, kB2_k0, kB1_k0, kB1_k1, xCb, noExc_k0, kCF_k0, kCF_k1, xCF0, xCF1, xCI, xFn, okIf, idxV, sqOf, cmpV, cmpN, cmpI, truV, binV, asg, asgs, subV, mkL, mkLn, frzL, frzT, allT, isNB, at0, at1, at2, at3, L2.ixN, biV, eq_int, eq_str, line, lsOf_tl, tpOf_tl, scOf_tl, snap_t, allT_il, tl_fold, tl0, tl1, tl2, il0, il1, il2, il_len, lsO_non, tpO_non, scO_non, lsO_bl, tpO_bl, scO_bl, lsO_int, tpO_int, scO_int, lsO_str, tpO_str, scO_str, lsO_tup, tpO_tup, scO_tup, lsO_lst, tpO_lst, scO_lst, lsO_scr, tpO_scr, scO_scr, lsO_ref, tpO_ref, scO_ref, lsO_Dt, tpO_Dt, scO_Dt, lsO_Dl, tpO_Dl, scO_Dl, objOf, attrV, fldV, setO, putD, methB, meV, isLst, callV, pickV, inV2, scV, mapO, L2.inV, L2.eqV, List.lookup, beq_ofString, ofString_inj, line, f__law_any_words_B1, aE, e1, e2, h0, hl', il_snoc]
      · simp; omega
    · by_cases h1 : v1 = 1
      · obtain ⟨v2, o2, e2, a2, b2, s2⟩ := dr (k := k) (rest := [.lst (il f)]) (n := 32) s1 (by omega) (by omega)
        refine ⟨aE sm (.t (.int many)) (some (.t (.int v1))) x6 x7 x8 x9 x10 x11, [o2, .lst (il (f ++ [144 + v2]))], _, ec, ?_, ?_, o2, f ++ [144 + v2], _, _, _, _, _, _, _, s2, hf.snoc (by omega) (by omega), by simp; omega, rfl, rfl, rfl⟩
        · simp -implicitDefEqProofs [kSeq_k0, kSeq_k1, xB0, xB1, kAsg_k0, xAsg, kNx_k0, kNxD_k0, kFl2_k0, kFl1_k0, xFld, kSu3_k0, kSu2_k0, kSu1_k0, xSub, xExpr, xRetN, kRet_k0, xRet, kIte_k0, kIte_k1, xIte, kTru_k0, xT, xVar, xCon, xGlo, kBi2_k0, kBi1_k0, xBin, kNeg_k0, xNeg, kCm2_k0, kCm1_k0, xCmp, kIsN_k0, xIsN, kCh4_k0, kCh3_k0, kCh3_k1, kCh2_k0, kCh1_k0, xChain, xAnd, xOr, kAnd_k0, kAnd_k1, kOr_k0, kOr_k1, xAnd1, xAnd2, xOr1, xOr2, kNot_k0, xNot, kIfe_k0, kIfe_k1, xIfe, kLst_k0, xLst, kTup_k0, xTup, kIx2_k0, kIx1_k0, xIdx, kSl3_k0, kSl2_k0, kSl1_k0, xSlc, kOI_k0, xO0, xO1, kBf_k0, xBi, kMe2_k0, kMe1_k0, xMe, kCal_k0, xCall, kMt2_k0, kMt1_k0, xMeth, kMk2_k0, kMk1_k0, xMake, kAt_k0, xAttr, kPi2_k0, kPi1_k0, xPick, kEs2_k0, kEs1_k0, xEs0, xEs1, xC0, xC1, kSq_k0, kRg_k0, kEu_k0, xSq, xRg, xEu, kFn_k0, kFn_k1, kCo3_k0, kCo2_k0, xComp, kB2_k0, kB1_k0, kB1_k1, xCb, noExc_k0, kCF_k0, kCF_k1, xCF0, xCF1, xCI, xFn, okIf, idxV, sqOf, cmpV, cmpN, cmpI, truV, binV, asg, asgs, subV, mkL, mkLn, frzL, frzT, allT, isNB, at0, at1, at2, at3, L2.ixN, biV, eq_int, eq_str, line, lsOf_tl, tpOf_tl, scOf_tl, snap_t, allT_il, tl_fold, tl0, tl1, tl2, il0, il1, il2, il_len, lsO_non, tpO_non, scO_non, lsO_bl, tpO_bl, scO_bl, lsO_int, tpO_int, scO_int, lsO_str, tpO_str, scO_str, lsO_tup, tpO_tup, scO_tup, lsO_lst, tpO_lst, scO_lst, lsO_scr, tpO_scr, scO_scr, lsO_ref, tpO_ref, scO_ref, lsO_Dt, tpO_Dt, scO_Dt, lsO_Dl, tpO_Dl, scO_Dl, objOf, attrV, fldV, setO, putD, methB, meV, isLst, callV, pickV, inV2, scV, mapO, L2.inV, L2.eqV, List.lookup, beq_ofString, ofString_inj, line, f__law_any_words_B1, aE, e1, e2, h1, hl', il_snoc]
        · simp; omega
      · obtain ⟨v2, o2, e2, a2, b2, s2⟩ := dr (k := k) (rest := [.lst (il f)]) (n := 15) s1 (by omega) (by omega)
        obtain ⟨op, base, bx, more, hat, hbx, c0, c1, c2, c3⟩ := cds_at a2 b2
        rw [List.map_map] at hat
        have hsm := small_ok (i := more) (by omega) (by omega)
        have hrg : evSr pg (run pg fns (k + 1)) (.rng [(.var 9)]) = fun r M => kRg (evEs pg (run pg fns (k + 1)) [.var 9] r M) := by funext r M; rw [xRg]
        have fin : ∀ (mu : Int), 0 < mu → mu ≤ 16 → L2.atI [D.t (T.int 1), D.t (T.int 4), D.t (T.int 16)] (bx : Int) = some (.t (.int mu)) → ∃ r' M' m', evT pg (run pg fns (k + 1)) (.cmp .lt (.bi .len [(.var 3)]) (.var 2)) (aE sm (.t (.int many)) x5 x6 x7 x8 x9 x10 x11) [o, .lst (il f)] = .ok true [o, .lst (il f)] ∧ evB pg (run pg fns (k + 1)) f__law_any_words_B1 (aE sm (.t (.int many)) x5 x6 x7 x8 x9 x10 x11) [o, .lst (il f)] = .ok (.nx r') M' ∧ m' < (many - f.length).toNat ∧ aI (ns := ns) many sm m' r' M' := by
          intro mu m0 m1 hmu
          obtain ⟨v3, o3, e3, a3, b3, s3⟩ := dr (k := k) (rest := [.lst (il f)]) (n := mu) s2 (by omega) (by omega)
          obtain ⟨f', o', y10, y11, e4, s4, w4, l4⟩ := any_mores (k := k) (sm := sm) (op := op) (x5 := some (.t (.int v1))) (x7 := some (.t (.int base))) (x8 := some (.t (.int (bx : Int)))) (x9 := some (.t (.int more))) hm0 hm1 (rngL 0 more) o3 (f ++ [base + v3]) x10 x11 s3 (hf.snoc (by omega) (by omega)) (by rw [rngL_len]; simp; omega)
          rw [rngL_len] at l4
          have e5 : evS pg (run pg fns (k + 1)) f__law_any_words_L0 (aE sm (.t (.int many)) (some (.t (.int v1))) (some (.t (.str (Str.ofString op)))) (some (.t (.int base))) (some (.t (.int (bx : Int)))) (some (.t (.int more))) x10 x11) [o3, .lst (il (f ++ [base + v3]))] = .ok (.nx (aE sm (.t (.int many)) (some (.t (.int v1))) (some (.t (.str (Str.ofString op)))) (some (.t (.int base))) (some (.t (.int (bx : Int)))) (some (.t (.int more))) y10 y11)) [o', .lst (il f')] :=
            evS_for _ _ (by simp -implicitDefEqProofs [kSeq_k0, kSeq_k1, xB0, xB1, kAsg_k0, xAsg, kNx_k0, kNxD_k0, kFl2_k0, kFl1_k0, xFld, kSu3_k0, kSu2_k0, kSu1_k0, xSub, xExpr, xRetN, kRet_k0, xRet, kIte_k0, kIte_k1, xIte, kTru_k0, xT, xVar, xCon, xGlo, kBi2_k0, kBi1_k0, xBin, kNeg_k0, xNeg, kCm2_k0, kCm1_k0, xCmp, kIsN_k0, xIsN, kCh4_k0, kCh3_k0, kCh3_k1, kCh2_k0, kCh1_k0, xChain, xAnd, xOr, kAnd_k0, kAnd_k1, kOr_k0, kOr_k1, xAnd1, xAnd2, xOr1, xOr2, kNot_k0, xNot, kIfe_k0, kIfe_k1, xIfe, kLst_k0, xLst, kTup_k0, xTup, kIx2_k0, kIx1_k0, xIdx, kSl3_k0, kSl2_k0, kSl1_k0, xSlc, kOI_k0, xO0, xO1, kBf_k0, xBi, kMe2_k0, kMe1_k0, xMe, kCal_k0, xCall, kMt2_k0, kMt1_k0, xMeth, kMk2_k0, kMk1_k0, xMake, kAt_k0, xAttr, kPi2_k0, kPi1_k0, xPick, kEs2_k0, kEs1_k0, xEs0, xEs1, xC0, xC1, kSq_k0, kRg_k0, kEu_k0, xSq, xRg, xEu, kFn_k0, kFn_k1, kCo3_k0, kCo2_k0, xComp, kB2_k0, kB1_k0, kB1_k1, xCb, noExc_k0, kCF_k0, kCF_k1, xCF0, xCF1, xCI, xFn, okIf, idxV, sqOf, cmpV, cmpN, cmpI, truV, binV, asg, asgs, subV, mkL, mkLn, frzL, frzT, allT, isNB, at0, at1, at2, at3, L2.ixN, biV, eq_int, eq_str, line, lsOf_tl, tpOf_tl, scOf_tl, snap_t, allT_il, tl_fold, tl0, tl1, tl2, il0, il1, il2, il_len, lsO_non, tpO_non, scO_non, lsO_bl, tpO_bl, scO_bl, lsO_int, tpO_int, scO_int, lsO_str, tpO_str, scO_str, lsO_tup, tpO_tup, scO_tup, lsO_lst, tpO_lst, scO_lst, lsO_scr, tpO_scr, scO_scr, lsO_ref, tpO_ref, scO_ref, lsO_Dt, tpO_Dt, scO_Dt, lsO_Dl, tpO_Dl, scO_Dl, objOf, attrV, fldV, setO, putD, methB, meV, isLst, callV, pickV, inV2, scV, mapO, L2.inV, L2.eqV, List.lookup, beq_ofString, ofString_inj, line, aE, srRng_ok hsm]) e4
          refine ⟨aE sm (.t (.int many)) (some (.t (.int v1))) (some (.t (.str (Str.ofString op)))) (some (.t (.int base))) (some (.t (.int (bx : Int)))) (some (.t (.int more))) y10 y11, _, _, ec, ?_, ?_, o', f', _, _, _, _, _, _, _, s4, w4, ?_, rfl, rfl, rfl⟩
          · simp only [aE] at e5 ⊢
            simp -implicitDefEqProofs [kSeq_k0, kSeq_k1, xB0, xB1, kAsg_k0, xAsg, kNx_k0, kNxD_k0, kFl2_k0, kFl1_k0, xFld, kSu3_k0, kSu2_k0, kSu1_k0, xSub, xExpr, xRetN, kRet_k0, xRet, kIte_k0, kIte_k1, xIte, kTru_k0, xT, xVar, xCon, xGlo, kBi2_k0, kBi1_k0, xBin, kNeg_k0, xNeg, kCm2_k0, kCm1_k0, xCmp, kIsN_k0, xIsN, kCh4_k0, kCh3_k0, kCh3_k1, kCh2_k0, kCh1_k0, xChain, xAnd, xOr, kAnd_k0, kAnd_k1, kOr_k0, kOr_k1, xAnd1, xAnd2, xOr1, xOr2, kNot_k0, xNot, kIfe_k0, kIfe_k1, xIfe, kLst_k0, xLst, kTup_k0, xTup, kIx2_k0, kIx1_k0, xIdx, kSl3_k0, kSl2_k0, kSl1_k0, xSlc, kOI_k0, xO0, xO1, kBf_k0, xBi, kMe2_k0, kMe1_k0, xMe, kCal_k0, xCall, kMt2_k0, kMt1_k0, xMeth, kMk2_k0, kMk1_k0, xMake, kAt_k0, xAttr, kPi2_k0, kPi1_k0, xPick, kEs2_k0, kEs1_k0, xEs0, xEs1, xC0, xC1, kSq_k0, kRg_k0, kEu_k0, xSq, xRg, xEu, kFn_k0, kFn_k1, kCo3_k0, kCo2_k0, xComp, kB2_k0, kB1_k0, kB1_k1, xCb, noExc_k0, kCF_k0, kCF_k1, xCF0, xCF1, xCI, xFn, okIf, idxV, sqOf, cmpV, cmpN, cmpI, truV, binV, asg, asgs, subV, mkL, mkLn, frzL, frzT, allT, isNB, at0, at1, at2, at3, L2.ixN, biV, eq_int, eq_str, line, lsOf_tl, tpOf_tl, scOf_tl, snap_t, allT_il, tl_fold, tl0, tl1, tl2, il0, il1, il2, il_len, lsO_non, tpO_non, scO_non, lsO_bl, tpO_bl, scO_bl, lsO_int, tpO_int, scO_int, lsO_str, tpO_str, scO_str, lsO_tup, tpO_tup, scO_tup, lsO_lst, tpO_lst, scO_lst, lsO_scr, tpO_scr, scO_scr, lsO_ref, tpO_ref, scO_ref, lsO_Dt, tpO_Dt, scO_Dt, lsO_Dl, tpO_Dl, scO_Dl, objOf, attrV, fldV, setO, putD, methB, meV, isLst, callV, pickV, inV2, scV, mapO, L2.inV, L2.eqV, List.lookup, beq_ofString, ofString_inj, line, f__law_any_words_B1, e1, e2, e3, h0, h1, hl', il_snoc, hat, cT, hmu, e5]
          · simp at l4; omega
          · simp at l4; omega
        rcases hbx with rfl | rfl | rfl
        · exact fin 1 (by omega) (by omega) rfl
        · exact fin 4 (by omega) (by omega) rfl
        · exact fin 16 (by omega) (by omega) rfl
  · left
    refine ⟨[o, .lst (il f)], ?_, rfl, _, o, f, x5, x6, x7, x8, x9, x10, x11, hs, hf, hl, rfl, rfl, rfl⟩
    simp -implicitDefEqProofs [kSeq_k0, kSeq_k1, xB0, xB1, kAsg_k0, xAsg, kNx_k0, kNxD_k0, kFl2_k0, kFl1_k0, xFld, kSu3_k0, kSu2_k0, kSu1_k0, xSub, xExpr, xRetN, kRet_k0, xRet, kIte_k0, kIte_k1, xIte, kTru_k0, xT, xVar, xCon, xGlo, kBi2_k0, kBi1_k0, xBin, kNeg_k0, xNeg, kCm2_k0, kCm1_k0, xCmp, kIsN_k0, xIsN, kCh4_k0, kCh3_k0, kCh3_k1, kCh2_k0, kCh1_k0, xChain, xAnd, xOr, kAnd_k0, kAnd_k1, kOr_k0, kOr_k1, xAnd1, xAnd2, xOr1, xOr2, kNot_k0, xNot, kIfe_k0, kIfe_k1, xIfe, kLst_k0, xLst, kTup_k0, xTup, kIx2_k0, kIx1_k0, xIdx, kSl3_k0, kSl2_k0, kSl1_k0, xSlc, kOI_k0, xO0, xO1, kBf_k0, xBi, kMe2_k0, kMe1_k0, xMe, kCal_k0, xCall, kMt2_k0, kMt1_k0, xMeth, kMk2_k0, kMk1_k0, xMake, kAt_k0, xAttr, kPi2_k0, kPi1_k0, xPick, kEs2_k0, kEs1_k0, xEs0, xEs1, xC0, xC1, kSq_k0, kRg_k0, kEu_k0, xSq, xRg, xEu, kFn_k0, kFn_k1, kCo3_k0, kCo2_k0, xComp, kB2_k0, kB1_k0, kB1_k1, xCb, noExc_k0, kCF_k0, kCF_k1, xCF0, xCF1, xCI, xFn, okIf, idxV, sqOf, cmpV, cmpN, cmpI, truV, binV, asg, asgs, subV, mkL, mkLn, frzL, frzT, allT, isNB, at0, at1, at2, at3, L2.ixN, biV, eq_int, eq_str, line, lsOf_tl, tpOf_tl, scOf_tl, snap_t, allT_il, tl_fold, tl0, tl1, tl2, il0, il1, il2, il_len, lsO_non, tpO_non, scO_non, lsO_bl, tpO_bl, scO_bl, lsO_int, tpO_int, scO_int, lsO_str, tpO_str, scO_str, lsO_tup, tpO_tup, scO_tup, lsO_lst, tpO_lst, scO_lst, lsO_scr, tpO_scr, scO_scr, lsO_ref, tpO_ref, scO_ref, lsO_Dt, tpO_Dt, scO_Dt, lsO_Dl, tpO_Dl, scO_Dl, objOf, attrV, fldV, setO, putD, methB, meV, isLst, callV, pickV, inV2, scV, mapO, L2.inV, L2.eqV, List.lookup, beq_ofString, ofString_inj, line, aE, hlt]
theorem any_ok {o : MO} (hs : Stt ns o) : ∃ (ws : List Int) (o' : MO) (rest : Ar), run pg fns (k + 2) 89 [.ref 0] [o] = .ok (.t (tl ws)) (o' :: rest) ∧ Stt ns o' ∧ Ws ws ∧ ws.length ≤ 256 := by
  rw [run_at fn_any]
  obtain ⟨v1, o1, e1, a1, b1, s1⟩ := dr (k := k) (rest := []) (n := 12) hs (by omega) (by omega)
  obtain ⟨v2, o2, e2, a2, b2, s2⟩ := dr (k := k) (rest := []) (n := 60) s1 (by omega) (by omega)
  obtain ⟨v3, o3, e3, a3, b3, s3⟩ := dr (k := k) (rest := []) (n := 57) s2 (by omega) (by omega)
  obtain ⟨v4, o4, e4, a4, b4, s4⟩ := dr (k := k) (rest := []) (n := 5) s3 (by omega) (by omega)
  have hco := codes_ok k
  have key : ∀ many : Int, 0 ≤ many → many ≤ 256 → ((v4 = 0 ∧ many = v1) ∨ (v4 = 1 ∧ many = v2) ∨ (v4 = 2 ∧ many = v2) ∨ (v4 = 3 ∧ many = v2) ∨ (v4 = 4 ∧ many = 200 + v3)) → ∃ (ws : List Int) (o' : MO) (rest : Ar), fnV pg (run pg fns (k + 1)) f__law_any_words [.ref 0] [o] = .ok (.t (tl ws)) (o' :: rest) ∧ Stt ns o' ∧ Ws ws ∧ ws.length ≤ 256 := by
    intro many m0 m1 hc
    obtain ⟨r', M', e, _, m, o', f, x5, x6, x7, x8, x9, x10, x11, hs', hf, hl, _, rfl, rfl⟩ := whl_ok (c := evT pg (run pg fns (k + 1)) (.cmp .lt (.bi .len [(.var 3)]) (.var 2))) (b := evB pg (run pg fns (k + 1)) f__law_any_words_B1) (aI (ns := ns) many (.t (.lst [.int v1, .int v2, .int (200 + v3)])))
      (fun r M => True ∧ ∃ m, aI (ns := ns) many (.t (.lst [.int v1, .int v2, .int (200 + v3)])) m r M) (fun m r M h => by
        rcases any_step (k := k) m0 m1 h with ⟨M1, h1, rfl, h2⟩ | h1
        · exact .inl ⟨_, h1, trivial, h2⟩
        · exact .inr h1) (many - (0 : Nat)).toNat wfuel (aE (.t (.lst [.int v1, .int v2, .int (200 + v3)])) (.t (.int many)) none none none none none none none) [o4, .lst (il [])] (by unfold wfuel; omega) ⟨o4, [], _, _, _, _, _, _, _, s4, (fun _ h => nomatch h), by simp, rfl, rfl, rfl⟩
    have e5 := (evS_whl pg (run pg fns (k + 1)) (.cmp .lt (.bi .len [(.var 3)]) (.var 2)) f__law_any_words_B1 _ _).trans e
    have hi : HT.sIx f.length f.length (some many) ≤ 256 := by
      show (if many < 0 then _ else min many.toNat f.length) ≤ 256
      rw [if_neg (by omega)]; omega
    refine ⟨cut f none (some many), o', [.lst (il f)], ?_, hs', fun w hw => hf w ?_, ?_⟩
    · simp only [aE, il0] at e5
      rcases hc with ⟨rfl, rfl⟩ | ⟨rfl, rfl⟩ | ⟨rfl, rfl⟩ | ⟨rfl, rfl⟩ | ⟨rfl, rfl⟩ <;> simp -implicitDefEqProofs [kSeq_k0, kSeq_k1, xB0, xB1, kAsg_k0, xAsg, kNx_k0, kNxD_k0, kFl2_k0, kFl1_k0, xFld, kSu3_k0, kSu2_k0, kSu1_k0, xSub, xExpr, xRetN, kRet_k0, xRet, kIte_k0, kIte_k1, xIte, kTru_k0, xT, xVar, xCon, xGlo, kBi2_k0, kBi1_k0, xBin, kNeg_k0, xNeg, kCm2_k0, kCm1_k0, xCmp, kIsN_k0, xIsN, kCh4_k0, kCh3_k0, kCh3_k1, kCh2_k0, kCh1_k0, xChain, xAnd, xOr, kAnd_k0, kAnd_k1, kOr_k0, kOr_k1, xAnd1, xAnd2, xOr1, xOr2, kNot_k0, xNot, kIfe_k0, kIfe_k1, xIfe, kLst_k0, xLst, kTup_k0, xTup, kIx2_k0, kIx1_k0, xIdx, kSl3_k0, kSl2_k0, kSl1_k0, xSlc, kOI_k0, xO0, xO1, kBf_k0, xBi, kMe2_k0, kMe1_k0, xMe, kCal_k0, xCall, kMt2_k0, kMt1_k0, xMeth, kMk2_k0, kMk1_k0, xMake, kAt_k0, xAttr, kPi2_k0, kPi1_k0, xPick, kEs2_k0, kEs1_k0, xEs0, xEs1, xC0, xC1, kSq_k0, kRg_k0, kEu_k0, xSq, xRg, xEu, kFn_k0, kFn_k1, kCo3_k0, kCo2_k0, xComp, kB2_k0, kB1_k0, kB1_k1, xCb, noExc_k0, kCF_k0, kCF_k1, xCF0, xCF1, xCI, xFn, okIf, idxV, sqOf, cmpV, cmpN, cmpI, truV, binV, asg, asgs, subV, mkL, mkLn, frzL, frzT, allT, isNB, at0, at1, at2, at3, L2.ixN, biV, eq_int, eq_str, line, lsOf_tl, tpOf_tl, scOf_tl, snap_t, allT_il, tl_fold, tl0, tl1, tl2, il0, il1, il2, il_len, lsO_non, tpO_non, scO_non, lsO_bl, tpO_bl, scO_bl, lsO_int, tpO_int, scO_int, lsO_str, tpO_str, scO_str, lsO_tup, tpO_tup, scO_tup, lsO_lst, tpO_lst, scO_lst, lsO_scr, tpO_scr, scO_scr, lsO_ref, tpO_ref, scO_ref, lsO_Dt, tpO_Dt, scO_Dt, lsO_Dl, tpO_Dl, scO_Dl, objOf, attrV, fldV, setO, putD, methB, meV, isLst, callV, pickV, inV2, scV, mapO, L2.inV, L2.eqV, List.lookup, beq_ofString, ofString_inj, line, f__law_any_words, f__law_any_words_L1, e1, e2, e3, e4, hco, e5, slcV, cut_il, L2.atI]
    · exact List.mem_of_mem_drop (List.mem_of_mem_take hw)
    · have : (cut f none (some many)).length ≤ HT.sIx f.length f.length (some many) - HT.sIx f.length 0 none := by unfold cut; exact List.length_take_le _ _
      omega
  have hc : v4 = 0 ∨ v4 = 1 ∨ v4 = 2 ∨ v4 = 3 ∨ v4 = 4 := by omega
  rcases hc with h | h | h | h | h
  · exact key v1 a1 (by omega) (.inl ⟨h, rfl⟩)
  · exact key v2 a2 (by omega) (.inr (.inl ⟨h, rfl⟩))
  · exact key v2 a2 (by omega) (.inr (.inr (.inl ⟨h, rfl⟩)))
  · exact key v2 a2 (by omega) (.inr (.inr (.inr (.inl ⟨h, rfl⟩))))
  · exact key (200 + v3) (by omega) (by omega) (.inr (.inr (.inr (.inr ⟨h, rfl⟩))))
end Rw.K02
end

section
set_option Elab.async false
set_option linter.all false
set_option maxRecDepth 100000
set_option maxHeartbeats 0
/-! k02: the law -/
namespace Rw.K02
open PySem
variable {k : Nat} {ns ws : List Int}
theorem callV_plain (G : Cal) (f : Nat) (ds : List D) (M : Ar) : callV G .plain f ds M = G f ds M := rfl
theorem callV_clean {G : Cal} {f : Nat} {ds : List D} {ts : List T} {M M1 : Ar} {d : D} {t : T} (h1 : allT ds = some ts) (h2 : G f (ts.map .t) [] = .ok d M1) (h3 : snap M1 deep d = some t) : callV G .clean f ds M = .ok (.t t) M := by
  simp only [callV, h1, h2, h3]
theorem callV_peek {G : Cal} {f : Nat} {ds : List D} {ts : List T} {M M1 : Ar} {d : D} {v : L2.V} (h1 : mapO (snap M deep) ds = some ts) (h2 : G f (ts.map .t) [] = .ok d M1) (h3 : scV d = some v) : callV G .peek f ds M = .ok d M := by
  simp only [callV, h1, h2, h3]
theorem callV_fresh {G : Cal} {f : Nat} {ds : List D} {ts : List T} {M M1 : Ar} {d : D} (h1 : allT ds = some ts) (h2 : G f (ts.map .t) [] = .ok d M1) : callV G .fresh f ds M = .ok (shD M.length d) (M ++ M1.map (shO M.length)) := by
  simp only [callV, h1, h2]
theorem callV_focus {G : Cal} {f i : Nat} {ds : List D} {ts ts1 ts2 : List T} {l l' : List D} {M r : Ar} {d : D} {t : T} (h1 : M[i]? = some (.lst l)) (h2 : allT ds = some ts) (h3 : allT l = some ts1) (h4 : G f (.ref 0 :: ts.map .t) [.lst l] = .ok d (.lst l' :: r)) (h5 : allT l' = some ts2) (h6 : snap (.gone :: r) deep d = some t) : callV G .focus f (.ref i :: ds) M = .ok (.t t) (M.set i (.lst l')) := by
  simp only [callV, h1, h2, h3, h4, foc, h5, h6]
theorem stt_closed {o : MO} (h : Stt ns o) : ∃ l ts, o = .lst l ∧ allT l = some ts := by
  obtain ⟨p, m, r, rfl, _⟩ := h
  exact ⟨_, _, rfl, rfl⟩
theorem foc_any {o : MO} {rest : Ar} (hs : Stt ns o) : ∃ (ws : List Int) (o' : MO), callV (run pg fns (k + 2)) .focus 89 [.ref 0] (o :: rest) = .ok (.t (tl ws)) (o' :: rest) ∧ Stt ns o' ∧ Ws ws ∧ ws.length ≤ 256 := by
  obtain ⟨ws, o', rest', e, s1, w1, l1⟩ := any_ok (k := k) hs
  obtain ⟨l, ts, rfl, hl⟩ := stt_closed hs
  obtain ⟨l', ts', rfl, hl'⟩ := stt_closed s1
  refine ⟨ws, .lst l', ?_, s1, w1, l1⟩
  exact callV_focus (ds := []) rfl rfl hl e hl' (snap_t _ _ _)
theorem snap_ref {M : Ar} {i n : Nat} {l : List Int} (h : M[i]? = some (.lst (il l))) : snap M (n + 1) (.ref i) = some (tl l) := by
  show (match M[i]? with
    | some (.lst l) => (mapO (snap M n) l).map T.lst
    | _ => none) = _
  rw [h]
  show (mapO (snap M n) (il l)).map T.lst = _
  rw [mapO_il]; rfl
theorem snap_fin {M : Ar} {i j : Nat} {s : Mc} (h1 : M[i]? = some (.lst (il s.says))) (h2 : M[j]? = some (.lst (il s.past))) : snap M deep (.tup [.ref i, .t (.str (Str.ofString s.why)), .ref j]) = some (fT s) := by
  show (mapO (snap M 5) [.ref i, .t (.str (Str.ofString s.why)), .ref j]).map T.tup = _
  simp only [mapO, snap_ref h1, snap_ref h2, snap_t]
  rfl
theorem clean_runs {M : Ar} {b : Int} {most : Nat} (hw : Ws ws) (hl : ws.length ≤ 256) (hm : most ≤ 1000) : callV (run pg fns (k + 3)) .clean 90 [.t (tl ws), .t (.int b), .t (.int most)] M = .ok (.t (fT (finF ws b most))) M := by
  exact callV_clean (ts := [tl ws, .int b, .int most]) rfl (runs_ok hw hl hm) (snap_fin rfl rfl)
theorem shDs_il (n : Nat) : ∀ l : List Int, shDs n (il l) = il l
  | [] => rfl
  | a :: l => by
    show shDs n (.t (.int a) :: il l) = _
    simp only [shDs, shD, shDs_il n l]
    rfl
def MS (n : Nat) (ws : List Int) (s : Mc) : Ar := (MA ws s).map (shO n)
theorem fresh_run {M : Ar} {b : Int} {most : Nat} (hw : Ws ws) (hl : ws.length ≤ 256) (hb0 : 0 ≤ b) (hb1 : b < 256) (hm : most ≤ 1000) :
    callV (run pg fns (k + 6)) .fresh 13 [.t (tl ws), .t (.int b), .t (.int most)] M = .ok (.tup [.ref (M.length + 4), .t (.str (Str.ofString (finF ws b most).why)), .ref (M.length + 5)]) (M ++ MS M.length ws (finF ws b most)) := by
  have := callV_fresh (M := M) (ts := [tl ws, .int b, .int most]) (ds := [.t (tl ws), .t (.int b), .t (.int most)]) rfl (run_ok (k := k) hw hl hb0 hb1 hm)
  simp only [shD, shDs] at this
  exact this
theorem MS4 {n : Nat} {s : Mc} : (MS n ws s)[4]? = some (.lst (il s.says)) := by
  show some (shO n (.lst (il s.says))) = _
  simp only [shO, shDs_il]
theorem MS5 {n : Nat} {s : Mc} : (MS n ws s)[5]? = some (.lst (il s.past)) := by
  show some (shO n (.lst (il s.past))) = _
  simp only [shO, shDs_il]
theorem app4 {M : Ar} {s : Mc} : (M ++ MS M.length ws s)[M.length + 4]? = some (.lst (il s.says)) := by
  rw [List.getElem?_append_right (by omega), Nat.add_sub_cancel_left]; exact MS4
theorem app5 {M : Ar} {s : Mc} : (M ++ MS M.length ws s)[M.length + 5]? = some (.lst (il s.past)) := by
  rw [List.getElem?_append_right (by omega), Nat.add_sub_cancel_left]; exact MS5
theorem peek_same {M : Ar} {i j : Nat} {s : Mc} (h1 : M[i]? = some (.lst (il s.says))) (h2 : M[j]? = some (.lst (il s.past))) (l1 : s.says.length ≤ 1000) (l2 : s.past.length ≤ 1000) :
    callV (run pg fns (k + 3)) .peek 85 [.tup [.ref i, .t (.str (Str.ofString s.why)), .ref j], .t (fT s)] M = .ok (.t (.bl true)) M := by
  have e : mapO (snap M deep) [.tup [.ref i, .t (.str (Str.ofString s.why)), .ref j], .t (fT s)] = some [fT s, fT s] := by
    simp only [mapO, snap_fin h1 h2, snap_t]
  exact callV_peek e (same_fin s l1 l2) rfl
def lE (ns : List Int) (x2 x3 x4 x5 x6 x7 x8 x9 x10 x11 : Option D) : En := [some (.t (.scr ns)), some (.ref 0), x2, x3, x4, x5, x6, x7, x8, x9, x10, x11]
/-- asked once -/
theorem turn0 {o : MO} {rest : Ar} {b : Int} {most : Nat} {x2 x3 x5 x10 x11 : Option D} {dd : D} (hw : Ws ws) (hl : ws.length ≤ 256) (hb0 : 0 ≤ b) (hb1 : b < 256) (hm : most ≤ 1000) :
    ∃ rest' y, forBody pg (run pg fns (k + 6)) (.var 10) f_law_B0 dd (lE ns x2 x3 (some (.t (tl ws))) x5 (some (.t (.int b))) (some (.t (.int most))) (some (.t (fT (finF ws b most)))) (some (.t (tl ws))) x10 x11) (o :: rest) = .ok (.nx (lE ns x2 x3 (some (.t (tl ws))) x5 (some (.t (.int b))) (some (.t (.int most))) (some (.t (fT (finF ws b most)))) (some (.t (tl ws))) (some dd) y)) (o :: rest') := by
  have hr := fresh_run (k := k) (M := o :: rest) hw hl hb0 hb1 hm
  obtain ⟨l1, l2⟩ := fin_len (ws := ws) (b := b) hl hm
  have hp := peek_same (k := k + 3) (M := (o :: rest) ++ MS (o :: rest).length ws (finF ws b most)) app4 app5 l1 l2
  have h4 := app4 (M := o :: rest) (ws := ws) (s := finF ws b most)
  have h5 := app5 (M := o :: rest) (ws := ws) (s := finF ws b most)
  generalize (finF ws b most) = s at hr hp h4 h5 l1 l2 ⊢
  generalize hn : (o :: rest).length = n at hr hp h4 h5
  have hn0 : 0 < n := by rw [← hn]; simp
  generalize hM : MS n ws s = N at hr hp h4 h5
  have h5' : (((o :: rest) ++ N).set (n + 4) (.lst (il s.says ++ [.t (.int 0)])))[n + 5]? = some (.lst (il s.past)) := by
    rw [List.getElem?_set_ne (by omega)]; exact h5
  have hq : eqV2 (o :: (rest ++ N)) (.t (tl ws)) (.t (tl ws)) not = .ok (.t (.bl false)) (o :: (rest ++ N)) := by rw [eq_tl]; simp
  refine ⟨((rest ++ N).set (n + 3) (.lst (il s.says ++ [.t (.int 0)]))).set (n + 4) (.lst (il s.past ++ [.t (.int 0)])), some (.tup [.ref (n + 4), .t (.str (Str.ofString s.why)), .ref (n + 5)]), ?_⟩
  have e1 : s.says.length < 16777216 := by omega
  have e2 : s.past.length < 16777216 := by omega
  simp only [List.cons_append] at hr hp h4 h5 h5'
  have h4b : (rest ++ N)[n + 3]? = some (.lst (il s.says)) := h4
  have h5b : (rest ++ N)[n + 4]? = some (.lst (il s.past)) := h5
  simp -implicitDefEqProofs [kSeq_k0, kSeq_k1, xB0, xB1, kAsg_k0, xAsg, kNx_k0, kNxD_k0, kFl2_k0, kFl1_k0, xFld, kSu3_k0, kSu2_k0, kSu1_k0, xSub, xExpr, xRetN, kRet_k0, xRet, kIte_k0, kIte_k1, xIte, kTru_k0, xT, xVar, xCon, xGlo, kBi2_k0, kBi1_k0, xBin, kNeg_k0, xNeg, kCm2_k0, kCm1_k0, xCmp, kIsN_k0, xIsN, kCh4_k0, kCh3_k0, kCh3_k1, kCh2_k0, kCh1_k0, xChain, xAnd, xOr, kAnd_k0, kAnd_k1, kOr_k0, kOr_k1, xAnd1, xAnd2, xOr1, xOr2, kNot_k0, xNot, kIfe_k0, kIfe_k1, xIfe, kLst_k0, xLst, kTup_k0, xTup, kIx2_k0, kIx1_k0, xIdx, kSl3_k0, kSl2_k0, kSl1_k0, xSlc, kOI_k0, xO0, xO1, kBf_k0, xBi, kMe2_k0, kMe1_k0, xMe, kCal_k0, xCall, kMt2_k0, kMt1_k0, xMeth, kMk2_k0, kMk1_k0, xMake, kAt_k0, xAttr, kPi2_k0, kPi1_k0, xPick, kEs2_k0, kEs1_k0, xEs0, xEs1, xC0, xC1, kSq_k0, kRg_k0, kEu_k0, xSq, xRg, xEu, kFn_k0, kFn_k1, kCo3_k0, kCo2_k0, xComp, kB2_k0, kB1_k0, kB1_k1, xCb, noExc_k0, kCF_k0, kCF_k1, xCF0, xCF1, xCI, xFn, okIf, idxV, sqOf, cmpV, cmpN, cmpI, truV, binV, asg, asgs, subV, mkL, mkLn, frzL, frzT, allT, isNB, at0, at1, at2, at3, L2.ixN, biV, eq_int, eq_str, line, lsOf_tl, tpOf_tl, scOf_tl, snap_t, allT_il, tl_fold, tl0, tl1, tl2, il0, il1, il2, il_len, lsO_non, tpO_non, scO_non, lsO_bl, tpO_bl, scO_bl, lsO_int, tpO_int, scO_int, lsO_str, tpO_str, scO_str, lsO_tup, tpO_tup, scO_tup, lsO_lst, tpO_lst, scO_lst, lsO_scr, tpO_scr, scO_scr, lsO_ref, tpO_ref, scO_ref, lsO_Dt, tpO_Dt, scO_Dt, lsO_Dl, tpO_Dl, scO_Dl, objOf, attrV, fldV, setO, putD, methB, meV, isLst, callV_plain, pickV, inV2, scV, mapO, L2.inV, L2.eqV, List.lookup, beq_ofString, ofString_inj, line, forBody, f_law_B0, lE, hr, hp, h4b, h5b, hq, e1, e2]
def lE1 (ns : List Int) (r : En) : Prop := ∃ x2 x3 x4 x5 x6 x7 x8 x9 x10 x11, r = lE ns x2 x3 x4 x5 x6 x7 x8 x9 x10 x11
theorem rng2 : rngL 0 2 = [.t (.int 0), .t (.int 1)] := by rfl
/-- a case -/
theorem turn1 {o : MO} {rest : Ar} {r : En} {dd : D} (hs : Stt ns o) (hr : lE1 ns r) :
    ∃ o' rest' r', forBody pg (run pg fns (k + 6)) (.var 2) f_law_B1 dd r (o :: rest) = .ok (.nx r') (o' :: rest') ∧ Stt ns o' ∧ lE1 ns r' := by
  obtain ⟨x2, x3, x4, x5, x6, x7, x8, x9, x10, x11, rfl⟩ := hr
  obtain ⟨ws, o1, e1, s1, hw, hl⟩ := foc_any (k := k + 4) (rest := rest) hs
  obtain ⟨v2, o2, e2, a2, b2, s2⟩ := dr (k := k + 5) (rest := rest) (n := 1 + ws.length) s1 (by omega) (by omega)
  obtain ⟨v3, o3, e3, a3, b3, s3⟩ := dr (k := k + 5) (rest := rest) (n := 30) s2 (by omega) (by omega)
  obtain ⟨v4, o4, e4, a4, b4, s4⟩ := dr (k := k + 5) (rest := rest) (n := 3) s3 (by omega) (by omega)
  have key : ∀ most : Nat, most ≤ 1000 → L2.atI [D.t (.int v3), D.t (.int 200), D.t (.int 1000)] v4 = some (.t (.int most)) → ∃ o' rest' r', forBody pg (run pg fns (k + 6)) (.var 2) f_law_B1 dd (lE ns x2 x3 x4 x5 x6 x7 x8 x9 x10 x11) (o :: rest) = .ok (.nx r') (o' :: rest') ∧ Stt ns o' ∧ lE1 ns r' := by
    intro most hm hat
    have hc := clean_runs (k := k + 3) (M := o4 :: rest) (b := v2 % 256) hw hl hm
    obtain ⟨rest5, y5, e5⟩ := turn0 (k := k) (ns := ns) (o := o4) (rest := rest) (x2 := some dd) (x3 := x3) (x5 := x5) (x10 := x10) (x11 := x11) (dd := .t (.int 0)) (b := v2 % 256) hw hl (by omega) (by omega) hm
    obtain ⟨rest6, y6, e6⟩ := turn0 (k := k) (ns := ns) (o := o4) (rest := rest5) (x2 := some dd) (x3 := x3) (x5 := x5) (x10 := some (.t (.int 0))) (x11 := y5) (dd := .t (.int 1)) (b := v2 % 256) hw hl (by omega) (by omega) hm
    have e7 : evS pg (run pg fns (k + 6)) f_law_L0 (lE ns (some dd) x3 (some (.t (tl ws))) x5 (some (.t (.int (v2 % 256)))) (some (.t (.int most))) (some (.t (fT (finF ws (v2 % 256) most)))) (some (.t (tl ws))) x10 x11) (o4 :: rest) = .ok (.nx (lE ns (some dd) x3 (some (.t (tl ws))) x5 (some (.t (.int (v2 % 256)))) (some (.t (.int most))) (some (.t (fT (finF ws (v2 % 256) most)))) (some (.t (tl ws))) (some (.t (.int 1))) y6)) (o4 :: rest6) :=
      evS_for _ _ (l := rngL 0 2) (M0 := o4 :: rest) (by simp -implicitDefEqProofs [kSeq_k0, kSeq_k1, xB0, xB1, kAsg_k0, xAsg, kNx_k0, kNxD_k0, kFl2_k0, kFl1_k0, xFld, kSu3_k0, kSu2_k0, kSu1_k0, xSub, xExpr, xRetN, kRet_k0, xRet, kIte_k0, kIte_k1, xIte, kTru_k0, xT, xVar, xCon, xGlo, kBi2_k0, kBi1_k0, xBin, kNeg_k0, xNeg, kCm2_k0, kCm1_k0, xCmp, kIsN_k0, xIsN, kCh4_k0, kCh3_k0, kCh3_k1, kCh2_k0, kCh1_k0, xChain, xAnd, xOr, kAnd_k0, kAnd_k1, kOr_k0, kOr_k1, xAnd1, xAnd2, xOr1, xOr2, kNot_k0, xNot, kIfe_k0, kIfe_k1, xIfe, kLst_k0, xLst, kTup_k0, xTup, kIx2_k0, kIx1_k0, xIdx, kSl3_k0, kSl2_k0, kSl1_k0, xSlc, kOI_k0, xO0, xO1, kBf_k0, xBi, kMe2_k0, kMe1_k0, xMe, kCal_k0, xCall, kMt2_k0, kMt1_k0, xMeth, kMk2_k0, kMk1_k0, xMake, kAt_k0, xAttr, kPi2_k0, kPi1_k0, xPick, kEs2_k0, kEs1_k0, xEs0, xEs1, xC0, xC1, kSq_k0, kRg_k0, kEu_k0, xSq, xRg, xEu, kFn_k0, kFn_k1, kCo3_k0, kCo2_k0, xComp, kB2_k0, kB1_k0, kB1_k1, xCb, noExc_k0, kCF_k0, kCF_k1, xCF0, xCF1, xCI, xFn, okIf, idxV, sqOf, cmpV, cmpN, cmpI, truV, binV, asg, asgs, subV, mkL, mkLn, frzL, frzT, allT, isNB, at0, at1, at2, at3, L2.ixN, biV, eq_int, eq_str, line, lsOf_tl, tpOf_tl, scOf_tl, snap_t, allT_il, tl_fold, tl0, tl1, tl2, il0, il1, il2, il_len, lsO_non, tpO_non, scO_non, lsO_bl, tpO_bl, scO_bl, lsO_int, tpO_int, scO_int, lsO_str, tpO_str, scO_str, lsO_tup, tpO_tup, scO_tup, lsO_lst, tpO_lst, scO_lst, lsO_scr, tpO_scr, scO_scr, lsO_ref, tpO_ref, scO_ref, lsO_Dt, tpO_Dt, scO_Dt, lsO_Dl, tpO_Dl, scO_Dl, objOf, attrV, fldV, setO, putD, methB, meV, isLst, callV_plain, pickV, inV2, scV, mapO, L2.inV, L2.eqV, List.lookup, beq_ofString, ofString_inj, line, lE, srRng, small]) (by rw [rng2, forF_nx e5, forF_nx e6]; rfl)
    refine ⟨o4, rest6, lE ns (some dd) x3 (some (.t (tl ws))) x5 (some (.t (.int (v2 % 256)))) (some (.t (.int most))) (some (.t (fT (finF ws (v2 % 256) most)))) (some (.t (tl ws))) (some (.t (.int 1))) y6, ?_, s4, _, _, _, _, _, _, _, _, _, _, rfl⟩
    · simp only [lE] at e7 ⊢
      simp -implicitDefEqProofs [kSeq_k0, kSeq_k1, xB0, xB1, kAsg_k0, xAsg, kNx_k0, kNxD_k0, kFl2_k0, kFl1_k0, xFld, kSu3_k0, kSu2_k0, kSu1_k0, xSub, xExpr, xRetN, kRet_k0, xRet, kIte_k0, kIte_k1, xIte, kTru_k0, xT, xVar, xCon, xGlo, kBi2_k0, kBi1_k0, xBin, kNeg_k0, xNeg, kCm2_k0, kCm1_k0, xCmp, kIsN_k0, xIsN, kCh4_k0, kCh3_k0, kCh3_k1, kCh2_k0, kCh1_k0, xChain, xAnd, xOr, kAnd_k0, kAnd_k1, kOr_k0, kOr_k1, xAnd1, xAnd2, xOr1, xOr2, kNot_k0, xNot, kIfe_k0, kIfe_k1, xIfe, kLst_k0, xLst, kTup_k0, xTup, kIx2_k0, kIx1_k0, xIdx, kSl3_k0, kSl2_k0, kSl1_k0, xSlc, kOI_k0, xO0, xO1, kBf_k0, xBi, kMe2_k0, kMe1_k0, xMe, kCal_k0, xCall, kMt2_k0, kMt1_k0, xMeth, kMk2_k0, kMk1_k0, xMake, kAt_k0, xAttr, kPi2_k0, kPi1_k0, xPick, kEs2_k0, kEs1_k0, xEs0, xEs1, xC0, xC1, kSq_k0, kRg_k0, kEu_k0, xSq, xRg, xEu, kFn_k0, kFn_k1, kCo3_k0, kCo2_k0, xComp, kB2_k0, kB1_k0, kB1_k1, xCb, noExc_k0, kCF_k0, kCF_k1, xCF0, xCF1, xCI, xFn, okIf, idxV, sqOf, cmpV, cmpN, cmpI, truV, binV, asg, asgs, subV, mkL, mkLn, frzL, frzT, allT, isNB, at0, at1, at2, at3, L2.ixN, biV, eq_int, eq_str, line, lsOf_tl, tpOf_tl, scOf_tl, snap_t, allT_il, tl_fold, tl0, tl1, tl2, il0, il1, il2, il_len, lsO_non, tpO_non, scO_non, lsO_bl, tpO_bl, scO_bl, lsO_int, tpO_int, scO_int, lsO_str, tpO_str, scO_str, lsO_tup, tpO_tup, scO_tup, lsO_lst, tpO_lst, scO_lst, lsO_scr, tpO_scr, scO_scr, lsO_ref, tpO_ref, scO_ref, lsO_Dt, tpO_Dt, scO_Dt, lsO_Dl, tpO_Dl, scO_Dl, objOf, attrV, fldV, setO, putD, methB, meV, isLst, callV_plain, pickV, inV2, scV, mapO, L2.inV, L2.eqV, List.lookup, beq_ofString, ofString_inj, line, forBody, f_law_B1, e1, e2, e3, e4, hat, hc, e7]
  have hc : v4 = 0 ∨ v4 = 1 ∨ v4 = 2 := by omega
  rcases hc with rfl | rfl | rfl
  · exact key v3.toNat (by omega) (by rw [at0, Int.toNat_of_nonneg a3])
  · exact key 200 (by omega) rfl
  · exact key 1000 (by omega) rfl
theorem turns1 : ∀ (l : List D) (o : MO) (rest : Ar) (r : En), Stt ns o → lE1 ns r → ∃ o' rest' r', forF (forBody pg (run pg fns (k + 6)) (.var 2) f_law_B1) l r (o :: rest) = .ok (.nx r') (o' :: rest') ∧ Stt ns o' ∧ lE1 ns r'
  | [], o, rest, r, hs, hr => ⟨o, rest, r, rfl, hs, hr⟩
  | d :: l, o, rest, r, hs, hr => by
    obtain ⟨o1, rest1, r1, e1, s1, l1⟩ := turn1 (k := k) (dd := d) (rest := rest) hs hr
    obtain ⟨o2, rest2, r2, e2, s2, l2⟩ := turns1 l o1 rest1 r1 s1 l1
    exact ⟨o2, rest2, r2, by rw [forF_nx e1]; exact e2, s2, l2⟩
/-- the words of the deep calls -/
theorem deeps {M : Ar} {x2 x3 x6 x7 x8 x9 x10 x11 : Option D} : ∀ (n i : Nat) (f : List Int) (x5 : Option D), i + n ≤ 60 → f.length ≤ 2 * i → Ws f → ∃ f' y5, forF (forBody pg (run pg fns (k + 6)) (.var 5) f_law_B2) ((List.range' i n).map fun k : Nat => D.t (.int (0 + (k : Int)))) (lE ns x2 x3 (some (.t (tl f))) x5 x6 x7 x8 x9 x10 x11) M = .ok (.nx (lE ns x2 x3 (some (.t (tl f'))) y5 x6 x7 x8 x9 x10 x11)) M ∧ f'.length ≤ f.length + 2 * n ∧ Ws f'
  | 0, i, f, x5, _, _, hf => ⟨f, x5, rfl, by omega, hf⟩
  | n + 1, i, f, x5, hi, hl, hf => by
    have hw : Ws (f ++ [97, 2 * (i : Int) + 2]) := by
      have := (hf.snoc (w := 97) (by omega) (by omega)).snoc (w := 2 * (i : Int) + 2) (by omega) (by omega)
      rwa [List.append_assoc] at this
    have h1 : f.length + 2 ≤ 16777216 := by omega
    have e1 : forBody pg (run pg fns (k + 6)) (.var 5) f_law_B2 (.t (.int (0 + (i : Int)))) (lE ns x2 x3 (some (.t (tl f))) x5 x6 x7 x8 x9 x10 x11) M = .ok (.nx (lE ns x2 x3 (some (.t (tl (f ++ [97, 2 * (i : Int) + 2])))) (some (.t (.int (0 + (i : Int))))) x6 x7 x8 x9 x10 x11)) M := by
      have e : il f ++ [D.t (.int 97), D.t (.int (2 * (i : Int) + 2))] = il (f ++ [97, 2 * (i : Int) + 2]) := il_app f [97, 2 * (i : Int) + 2]
      simp -implicitDefEqProofs [kSeq_k0, kSeq_k1, xB0, xB1, kAsg_k0, xAsg, kNx_k0, kNxD_k0, kFl2_k0, kFl1_k0, xFld, kSu3_k0, kSu2_k0, kSu1_k0, xSub, xExpr, xRetN, kRet_k0, xRet, kIte_k0, kIte_k1, xIte, kTru_k0, xT, xVar, xCon, xGlo, kBi2_k0, kBi1_k0, xBin, kNeg_k0, xNeg, kCm2_k0, kCm1_k0, xCmp, kIsN_k0, xIsN, kCh4_k0, kCh3_k0, kCh3_k1, kCh2_k0, kCh1_k0, xChain, xAnd, xOr, kAnd_k0, kAnd_k1, kOr_k0, kOr_k1, xAnd1, xAnd2, xOr1, xOr2, kNot_k0, xNot, kIfe_k0, kIfe_k1, xIfe, kLst_k0, xLst, kTup_k0, xTup, kIx2_k0, kIx1_k0, xIdx, kSl3_k0, kSl2_k0, kSl1_k0, xSlc, kOI_k0, xO0, xO1, kBf_k0, xBi, kMe2_k0, kMe1_k0, xMe, kCal_k0, xCall, kMt2_k0, kMt1_k0, xMeth, kMk2_k0, kMk1_k0, xMake, kAt_k0, xAttr, kPi2_k0, kPi1_k0, xPick, kEs2_k0, kEs1_k0, xEs0, xEs1, xC0, xC1, kSq_k0, kRg_k0, kEu_k0, xSq, xRg, xEu, kFn_k0, kFn_k1, kCo3_k0, kCo2_k0, xComp, kB2_k0, kB1_k0, kB1_k1, xCb, noExc_k0, kCF_k0, kCF_k1, xCF0, xCF1, xCI, xFn, okIf, idxV, sqOf, cmpV, cmpN, cmpI, truV, binV, asg, asgs, subV, mkL, mkLn, frzL, frzT, allT, isNB, at0, at1, at2, at3, L2.ixN, biV, eq_int, eq_str, line, lsOf_tl, tpOf_tl, scOf_tl, snap_t, allT_il, tl_fold, tl0, tl1, tl2, il0, il1, il2, il_len, lsO_non, tpO_non, scO_non, lsO_bl, tpO_bl, scO_bl, lsO_int, tpO_int, scO_int, lsO_str, tpO_str, scO_str, lsO_tup, tpO_tup, scO_tup, lsO_lst, tpO_lst, scO_lst, lsO_scr, tpO_scr, scO_scr, lsO_ref, tpO_ref, scO_ref, lsO_Dt, tpO_Dt, scO_Dt, lsO_Dl, tpO_Dl, scO_Dl, objOf, attrV, fldV, setO, putD, methB, meV, isLst, callV_plain, pickV, inV2, scV, mapO, L2.inV, L2.eqV, List.lookup, beq_ofString, ofString_inj, line, forBody, f_law_B2, lE, h1, e]
      simp [tl]
    obtain ⟨f', y5, e2, l2, w2⟩ := deeps n (i + 1) (f ++ [97, 2 * (i : Int) + 2]) (some (.t (.int (0 + (i : Int))))) (by omega) (by simp; omega) hw
    refine ⟨f', y5, ?_, by simp at l2; omega, w2⟩
    rw [List.range'_succ, List.map_cons, forF_nx e1]
    exact e2
theorem law_true : ∀ ns : List Int, ∃ M, run pg fns (k + 7) 82 [.t (.scr ns)] [] = .ok (.t (.bl true)) M := by
  intro ns
  rw [run_at (fn := f_law) (by kernel_rfl)]
  obtain ⟨o, e0, s0⟩ := start_ok (P := pg) (fns := fns) (k := k + 5) (ns := ns) (by kernel_rfl)
  obtain ⟨o1, rest1, r1, e1, s1, x2, x3, x4, x5, x6, x7, x8, x9, x10, x11, rfl⟩ := turns1 (k := k) (rngL 0 5) o [] (lE ns none none none none none none none none none none) s0 ⟨_, _, _, _, _, _, _, _, _, _, rfl⟩
  have e1' : evS pg (run pg fns (k + 6)) f_law_L1 (lE ns none none none none none none none none none none) [o] = .ok (.nx (lE ns x2 x3 x4 x5 x6 x7 x8 x9 x10 x11)) (o1 :: rest1) :=
    evS_for _ _ (l := rngL 0 5) (M0 := [o]) (by simp -implicitDefEqProofs [kSeq_k0, kSeq_k1, xB0, xB1, kAsg_k0, xAsg, kNx_k0, kNxD_k0, kFl2_k0, kFl1_k0, xFld, kSu3_k0, kSu2_k0, kSu1_k0, xSub, xExpr, xRetN, kRet_k0, xRet, kIte_k0, kIte_k1, xIte, kTru_k0, xT, xVar, xCon, xGlo, kBi2_k0, kBi1_k0, xBin, kNeg_k0, xNeg, kCm2_k0, kCm1_k0, xCmp, kIsN_k0, xIsN, kCh4_k0, kCh3_k0, kCh3_k1, kCh2_k0, kCh1_k0, xChain, xAnd, xOr, kAnd_k0, kAnd_k1, kOr_k0, kOr_k1, xAnd1, xAnd2, xOr1, xOr2, kNot_k0, xNot, kIfe_k0, kIfe_k1, xIfe, kLst_k0, xLst, kTup_k0, xTup, kIx2_k0, kIx1_k0, xIdx, kSl3_k0, kSl2_k0, kSl1_k0, xSlc, kOI_k0, xO0, xO1, kBf_k0, xBi, kMe2_k0, kMe1_k0, xMe, kCal_k0, xCall, kMt2_k0, kMt1_k0, xMeth, kMk2_k0, kMk1_k0, xMake, kAt_k0, xAttr, kPi2_k0, kPi1_k0, xPick, kEs2_k0, kEs1_k0, xEs0, xEs1, xC0, xC1, kSq_k0, kRg_k0, kEu_k0, xSq, xRg, xEu, kFn_k0, kFn_k1, kCo3_k0, kCo2_k0, xComp, kB2_k0, kB1_k0, kB1_k1, xCb, noExc_k0, kCF_k0, kCF_k1, xCF0, xCF1, xCI, xFn, okIf, idxV, sqOf, cmpV, cmpN, cmpI, truV, binV, asg, asgs, subV, mkL, mkLn, frzL, frzT, allT, isNB, at0, at1, at2, at3, L2.ixN, biV, eq_int, eq_str, line, lsOf_tl, tpOf_tl, scOf_tl, snap_t, allT_il, tl_fold, tl0, tl1, tl2, il0, il1, il2, il_len, lsO_non, tpO_non, scO_non, lsO_bl, tpO_bl, scO_bl, lsO_int, tpO_int, scO_int, lsO_str, tpO_str, scO_str, lsO_tup, tpO_tup, scO_tup, lsO_lst, tpO_lst, scO_lst, lsO_scr, tpO_scr, scO_scr, lsO_ref, tpO_ref, scO_ref, lsO_Dt, tpO_Dt, scO_Dt, lsO_Dl, tpO_Dl, scO_Dl, objOf, attrV, fldV, setO, putD, methB, meV, isLst, callV_plain, pickV, inV2, scV, mapO, L2.inV, L2.eqV, List.lookup, beq_ofString, ofString_inj, line, lE, srRng, small]) e1
  obtain ⟨v2, o2, e2, a2, b2, s2⟩ := dr (k := k + 5) (rest := rest1) (n := 4) s1 (by omega) (by omega)
  have hsm := small_ok (i := 14 + v2) (by omega) (by omega)
  obtain ⟨f, y5, e3, l3, w3⟩ := deeps (k := k) (ns := ns) (M := o2 :: rest1) (x2 := x2) (x3 := some (.t (.int (14 + v2)))) (x6 := x6) (x7 := x7) (x8 := x8) (x9 := x9) (x10 := x10) (x11 := x11) (14 + v2).toNat 0 [] x5 (by omega) (by simp) (fun _ h => nomatch h)
  have e3' : evS pg (run pg fns (k + 6)) f_law_L2 (lE ns x2 (some (.t (.int (14 + v2)))) (some (.t (tl []))) x5 x6 x7 x8 x9 x10 x11) (o2 :: rest1) = .ok (.nx (lE ns x2 (some (.t (.int (14 + v2)))) (some (.t (tl f))) y5 x6 x7 x8 x9 x10 x11)) (o2 :: rest1) :=
    evS_for _ _ (l := rngL 0 (14 + v2)) (M0 := o2 :: rest1) (by simp -implicitDefEqProofs [kSeq_k0, kSeq_k1, xB0, xB1, kAsg_k0, xAsg, kNx_k0, kNxD_k0, kFl2_k0, kFl1_k0, xFld, kSu3_k0, kSu2_k0, kSu1_k0, xSub, xExpr, xRetN, kRet_k0, xRet, kIte_k0, kIte_k1, xIte, kTru_k0, xT, xVar, xCon, xGlo, kBi2_k0, kBi1_k0, xBin, kNeg_k0, xNeg, kCm2_k0, kCm1_k0, xCmp, kIsN_k0, xIsN, kCh4_k0, kCh3_k0, kCh3_k1, kCh2_k0, kCh1_k0, xChain, xAnd, xOr, kAnd_k0, kAnd_k1, kOr_k0, kOr_k1, xAnd1, xAnd2, xOr1, xOr2, kNot_k0, xNot, kIfe_k0, kIfe_k1, xIfe, kLst_k0, xLst, kTup_k0, xTup, kIx2_k0, kIx1_k0, xIdx, kSl3_k0, kSl2_k0, kSl1_k0, xSlc, kOI_k0, xO0, xO1, kBf_k0, xBi, kMe2_k0, kMe1_k0, xMe, kCal_k0, xCall, kMt2_k0, kMt1_k0, xMeth, kMk2_k0, kMk1_k0, xMake, kAt_k0, xAttr, kPi2_k0, kPi1_k0, xPick, kEs2_k0, kEs1_k0, xEs0, xEs1, xC0, xC1, kSq_k0, kRg_k0, kEu_k0, xSq, xRg, xEu, kFn_k0, kFn_k1, kCo3_k0, kCo2_k0, xComp, kB2_k0, kB1_k0, kB1_k1, xCb, noExc_k0, kCF_k0, kCF_k1, xCF0, xCF1, xCI, xFn, okIf, idxV, sqOf, cmpV, cmpN, cmpI, truV, binV, asg, asgs, subV, mkL, mkLn, frzL, frzT, allT, isNB, at0, at1, at2, at3, L2.ixN, biV, eq_int, eq_str, line, lsOf_tl, tpOf_tl, scOf_tl, snap_t, allT_il, tl_fold, tl0, tl1, tl2, il0, il1, il2, il_len, lsO_non, tpO_non, scO_non, lsO_bl, tpO_bl, scO_bl, lsO_int, tpO_int, scO_int, lsO_str, tpO_str, scO_str, lsO_tup, tpO_tup, scO_tup, lsO_lst, tpO_lst, scO_lst, lsO_scr, tpO_scr, scO_scr, lsO_ref, tpO_ref, scO_ref, lsO_Dt, tpO_Dt, scO_Dt, lsO_Dl, tpO_Dl, scO_Dl, objOf, attrV, fldV, setO, putD, methB, meV, isLst, callV_plain, pickV, inV2, scV, mapO, L2.inV, L2.eqV, List.lookup, beq_ofString, ofString_inj, line, lE, srRng_ok hsm]) (by rw [← e3]; unfold rngL; rw [Int.sub_zero, List.range_eq_range'])
  have hl : f.length ≤ 34 := by simp at l3; omega
  have hw : Ws (f ++ [151, 4, 1]) := by
    have := ((w3.snoc (w := 151) (by omega) (by omega)).snoc (w := 4) (by omega) (by omega)).snoc (w := 1) (by omega) (by omega)
    rwa [List.append_assoc, List.append_assoc] at this
  have hl2 : (f ++ [151, 4, 1]).length ≤ 256 := by simp; omega
  have h1 : f.length + 2 ≤ 16777216 := by omega
  have h2 : f.length + 3 ≤ 16777216 := by omega
  have hr := fresh_run (k := k) (M := o2 :: rest1) (b := 0) (most := 1000) hw hl2 (by omega) (by omega) (by omega)
  obtain ⟨n1, n2⟩ := fin_len (ws := f ++ [151, 4, 1]) (b := 0) (most := 1000) hl2 (by omega)
  have hp := peek_same (k := k + 3) (M := (o2 :: rest1) ++ MS (o2 :: rest1).length (f ++ [151, 4, 1]) (finF (f ++ [151, 4, 1]) 0 1000)) app4 app5 n1 n2
  have hc := clean_runs (k := k + 3) (M := (o2 :: rest1) ++ MS (o2 :: rest1).length (f ++ [151, 4, 1]) (finF (f ++ [151, 4, 1]) 0 1000)) (b := 0) (most := 1000) hw hl2 (by omega)
  generalize (o2 :: rest1) ++ MS (o2 :: rest1).length (f ++ [151, 4, 1]) (finF (f ++ [151, 4, 1]) 0 1000) = N at hr hp hc
  generalize fT (finF (f ++ [151, 4, 1]) 0 1000) = X at hp hc
  generalize D.tup [D.ref ((o2 :: rest1).length + 4), D.t (T.str (Str.ofString (finF (f ++ [151, 4, 1]) 0 1000).why)), D.ref ((o2 :: rest1).length + 5)] = Y at hp hr
  refine ⟨N, ?_⟩
  have ea : il f ++ [D.t (.int 151), D.t (.int 4), D.t (.int 1)] = il (f ++ [151, 4, 1]) := il_app f [151, 4, 1]
  have eb : il f ++ [D.t (.int 151), D.t (.int 4)] = il (f ++ [151, 4]) := il_app f [151, 4]
  have ec : il (f ++ [151, 4]) ++ [D.t (.int 1)] = il (f ++ [151, 4, 1]) := by rw [show [D.t (.int 1)] = il [1] from rfl, il_app, List.append_assoc]; rfl
  rw [show ((1000 : Nat) : Int) = 1000 from rfl] at hr hc
  simp only [lE, tl0] at e1' e3'
  simp -implicitDefEqProofs [kSeq_k0, kSeq_k1, xB0, xB1, kAsg_k0, xAsg, kNx_k0, kNxD_k0, kFl2_k0, kFl1_k0, xFld, kSu3_k0, kSu2_k0, kSu1_k0, xSub, xExpr, xRetN, kRet_k0, xRet, kIte_k0, kIte_k1, xIte, kTru_k0, xT, xVar, xCon, xGlo, kBi2_k0, kBi1_k0, xBin, kNeg_k0, xNeg, kCm2_k0, kCm1_k0, xCmp, kIsN_k0, xIsN, kCh4_k0, kCh3_k0, kCh3_k1, kCh2_k0, kCh1_k0, xChain, xAnd, xOr, kAnd_k0, kAnd_k1, kOr_k0, kOr_k1, xAnd1, xAnd2, xOr1, xOr2, kNot_k0, xNot, kIfe_k0, kIfe_k1, xIfe, kLst_k0, xLst, kTup_k0, xTup, kIx2_k0, kIx1_k0, xIdx, kSl3_k0, kSl2_k0, kSl1_k0, xSlc, kOI_k0, xO0, xO1, kBf_k0, xBi, kMe2_k0, kMe1_k0, xMe, kCal_k0, xCall, kMt2_k0, kMt1_k0, xMeth, kMk2_k0, kMk1_k0, xMake, kAt_k0, xAttr, kPi2_k0, kPi1_k0, xPick, kEs2_k0, kEs1_k0, xEs0, xEs1, xC0, xC1, kSq_k0, kRg_k0, kEu_k0, xSq, xRg, xEu, kFn_k0, kFn_k1, kCo3_k0, kCo2_k0, xComp, kB2_k0, kB1_k0, kB1_k1, xCb, noExc_k0, kCF_k0, kCF_k1, xCF0, xCF1, xCI, xFn, okIf, idxV, sqOf, cmpV, cmpN, cmpI, truV, binV, asg, asgs, subV, mkL, mkLn, frzL, frzT, allT, isNB, at0, at1, at2, at3, L2.ixN, biV, eq_int, eq_str, line, lsOf_tl, tpOf_tl, scOf_tl, snap_t, allT_il, tl_fold, tl0, tl1, tl2, il0, il1, il2, il_len, lsO_non, tpO_non, scO_non, lsO_bl, tpO_bl, scO_bl, lsO_int, tpO_int, scO_int, lsO_str, tpO_str, scO_str, lsO_tup, tpO_tup, scO_tup, lsO_lst, tpO_lst, scO_lst, lsO_scr, tpO_scr, scO_scr, lsO_ref, tpO_ref, scO_ref, lsO_Dt, tpO_Dt, scO_Dt, lsO_Dl, tpO_Dl, scO_Dl, objOf, attrV, fldV, setO, putD, methB, meV, isLst, callV_plain, pickV, inV2, scV, mapO, L2.inV, L2.eqV, List.lookup, beq_ofString, ofString_inj, line, f_law, e0, e1', e2, e3', h1, h2, ea, eb, ec, hr, hc, hp, -List.map_append]
end Rw.K02
end

section
set_option Elab.async false
set_option linter.all false
set_option maxRecDepth 100000
set_option maxHeartbeats 0
namespace Rw.K02
open PySem PySem.Spec PyProof.Rows L2
abbrev hk : PySem.W.Hook := He.hookX 5 (faL pg cn) (pes.map PE.toDef) (tsL pg) [] (exB pg)
def ob (s : PySem.W.SharedT) : He.AlX := He.obsX 5 (faL pg cn) (pes.map PE.toDef) (tsL pg) [] (exB pg) (HandSHeadRun.getT s)
theorem ob_eq (s : PySem.W.SharedT) : ob s = hk.obs s.abs := He.obsX_eq (HandSHeadRun.getT_eq s)
theorem runF (w : World) : (fun w => HandSHeadRun.RunEq R (PySem.W.view R.prog [lawIx]) hk ob 4000 loose w) (w.withFollow "special-get-raises" false) := by
  intro os
  kernel_rfl
theorem runT (w : World) : (fun w => HandSHeadRun.RunEq R (PySem.W.view R.prog [lawIx]) hk ob 4000 loose w) (w.withFollow "special-get-raises" true) := by
  intro os
  kernel_rfl
theorem runH (w : World) : HandSHeadRun.RunEq R (PySem.W.view R.prog [lawIx]) hk ob 4000 loose w := PySem.W.byRow2 "special-get-raises" (P := fun w => HandSHeadRun.RunEq R (PySem.W.view R.prog [lawIx]) hk ob 4000 loose w) runF runT w
end Rw.K02
end

section
set_option Elab.async false
set_option linter.all false
set_option maxRecDepth 100000
set_option maxHeartbeats 0
namespace Rw.K02
open PySem PySem.Spec PyProof.Rows L2
theorem all_ok : ∀ f fn, fns f = some fn → fnC pg fns fn (srcOf pes f) = true := by
  intro f fn e
  obtain ⟨en, q, rfl⟩ := fns_get e
  have z := List.all_eq_true.mp checked en (getE_mem q)
  unfold srcOf
  rw [q]
  exact z
def lawId : Nat := 82
def lev : Nat := 30
def LawTrue : Prop := ∀ ns : List Int, ns.length ≤ 63 → ∃ M, run pg fns lev lawId [.t (.scr ns)] [] = .ok (.t (.bl true)) M
theorem lawE : getE pes lawId = some ⟨82, f_law, srcS "law" "law" (top lawIx), ("law", none)⟩ := by rfl
theorem facts {P : Program} {w : World} {K : PySem.W.Frag} {h : Heap} {mg : Str → Option Value} {f : Addr} (lt : LawTrue) (X : K.In h) (G : h.Ns mainGlobals mg) (hfa : mg ("law" : Str) = some (.ref f)) (c : He.SaysX (faL pg cn) (pes.map PE.toDef) (tsL pg) [] (exB pg) w h K) :
    ∃ (fd : FuncData) (sp : Sp), (∀ (s : Shared) (v : Value), BindsTo s fd ⟨[v], []⟩ [("_law_script", v)]) ∧
      (∀ (H : Hp) (a : Addr) (ns : List Int), ns.length ≤ 63 → Only H → SqL K H a (ns.map V.int) → sp [.ref a] H (fun v _ => v = .bl true) fun _ _ _ => False) ∧
      ∀ base : Heap, K.In base → base.Ns mainGlobals mg → FnOk P w K mg base (L2.CX P w) (2 * lev) f fd ["_law_script"] sp := by
  obtain ⟨fdt, fx, hF⟩ := facts_of X G c sane binds
  have e0 : fnsOf pes lawId = some f_law := by unfold fnsOf; rw [lawE]; rfl
  have F := hF lawId f_law e0
  have eL : locOf pes lawId = (("law" : Str), none) := by unfold locOf; rw [lawE]
  have ea : faOf K pes lawId = He.ga K "law" := by unfold faOf; rw [eL]; rfl
  have em : mg "law" = some (.ref (He.ga K "law")) := He.glo_ok X G (c.t.d.facts (f := .glo "law") (by unfold faL; exact List.mem_append_right _ (List.mem_append_left _ (List.mem_map.mpr ⟨(82, "law"), by decide +kernel, rfl⟩))))
  have ef : f = faOf K pes lawId := by rw [ea]; exact Value.ref.inj (Option.some.inj (hfa.symm.trans em))
  subst ef
  have eS : srcOf pes lawId = srcS "law" "law" (top lawIx) := by unfold srcOf; rw [lawE]
  have b := FunD.bindsA (ps := ["_law_script"]) F (by rw [eS]; exact fun _ _ _ _ _ _ us hl => match us, hl with | [_], _ => rfl)
  refine ⟨fdt lawId, spF K (caOf K cn) (run pg fns lev) lawId 1, fun s v => b s [v] rfl, fun H a ns hl _ hS => ?_, fun base _ _ => ?_⟩
  · obtain ⟨M, e⟩ := lt ns hl
    exact law_of hS e
  · exact all_fns fx (srcOf pes) hF all_ok lev lawId f_law e0
end Rw.K02
open PySem PySem.W PySem.Calls PyProof.Rows
theorem k02_holds (lt : Rw.K02.LawTrue) : PySem.Challenge.rw_rowscribe_k02_machine_step_by_step.Holds := by
  w_on; o_law
  refine HandSHeadRun.head_any (r := Rw.K02.R) (q := view Rw.K02.R.prog [Rw.K02.lawIx]) (H := Rw.K02.hk) (ob := Rw.K02.ob) (M := 4000) (loose := Rw.K02.loose) (d := HandSHeadRun.topDef Rw.K02.R.prog Rw.K02.lawIx) (kwd := []) Rw.K02.ob_eq
    (by kernel_rfl) (fun s => by kernel_rfl) Rw.K02.runH (by kernel_rfl) (by kernel_rfl) (by kernel_rfl) (by rfl) (by first | assumption | decide +kernel) (by decide +kernel) ⟨rfl, rfl, rfl, rfl, rfl, by decide +kernel⟩ ?hw ?hc
  case hw => w_witness2
  case hc =>
    refine Rw.walk_w (l := PySem.Challenge.rw_rowscribe_k02_machine_step_by_step) (n := 63) (k := 2 * Rw.K02.lev) (x := "_law_script") (CX := fun w => L2.CX Rw.K02.R.prog w) rfl (by decide) (by kernel_rfl) ⟨rfl, by decide, by decide⟩ ?F (fun _ _ _ _ _ z => Rw.no_cx z)
    intro w mg fa h Y G hmg0
    obtain ⟨K, KX, c⟩ := Y
    have hmg : mg ("law" : PySem.Str) = some (.ref fa) := by
      have e : (HandSHeadRun.topDef Rw.K02.R.prog Rw.K02.lawIx).name = ("law" : PySem.Str) := by kernel_rfl
      rw [← e]
      exact hmg0
    obtain ⟨fd, sp, hb, hs, hF⟩ := Rw.K02.facts (P := (PySem.Challenge.rw_rowscribe_k02_machine_step_by_step).prog) (w := w) lt KX G hmg c
    exact ⟨K, fd, sp, KX, hb, hs, hF⟩
end

section
set_option Elab.async false
set_option maxRecDepth 100000 in
set_option maxHeartbeats 8000000 in
theorem PySem.Challenge.cw_rowscribe_k02_machine_step_by_step_holds : PySem.Challenge.rw_rowscribe_k02_machine_step_by_step.Holds := by
  exact k02_holds fun ns _ => Rw.K02.law_true (k := 23) ns
end
