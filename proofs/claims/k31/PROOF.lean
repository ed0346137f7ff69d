import PyProof.Rows.All
import Wide.All
import OpenK.AllK
import Wide.FinOn
import HandS.ForMost
import HandS.Wide
import HandS.TupAny
import HandS.Style
import HandS.IsInst
import HandS.Deep
import HandS.More
import KE.KEqDict
import HandS.SortInts
import HandS.RaiseMore
import HandS.Text
import HandS.Conv
import HandS.CallLocal
import HandS.SetFor
import HandS.Strs
import KE.GoesEnum
import KE.KDictZip
import HandS.DictTup
import HandS.SortRule
import HandS.ListItems
import HandS.Replace
import HandS.Small
import HandS.Finally
import HandS.SetKeys
import PyProof.DictMoreH
import HandS.Ends
import HandS.Defaults
import HandS.HeadEnd
import HandS.Head2
import HandS.HeadHook2
import HandS.Words
import PyProof.StrLawsIn
import PyProof.StrLawsTight
import PyProof.StrLawsChain
import PySem.Challenge.RW_roadmoot_k31_what_houses_give
set_option Elab.async false
set_option linter.all false
/-! The evaluator: values, a small syntax, its runs. -/
namespace Rm
open PySem
/-- data that may be stored anywhere -/
inductive T where
  | non | bl (b : Bool) | int (i : Int) | str (s : List Nat) | tup (xs : List T) | ref (n : Nat) | fn (f : Nat) | fl (xs : List T)
  deriving Inhabited, Repr
mutual
def T.beq : T → T → Bool
  | .non, .non => true
  | .bl a, .bl b => a == b
  | .int a, .int b => a == b
  | .str a, .str b => a == b
  | .tup a, .tup b => T.beqs a b
  | .ref a, .ref b => a == b
  | .fn a, .fn b => a == b
  | .fl a, .fl b => T.beqs a b
  | _, _ => false
def T.beqs : List T → List T → Bool
  | [], [] => true
  | a :: as, b :: bs => T.beq a b && T.beqs as bs
  | _, _ => false
end
mutual
theorem T.beq_iff : ∀ a b : T, T.beq a b = true ↔ a = b
  | a, b => by
    cases a <;> cases b <;> simp [T.beq]
    case tup.tup x y => exact T.beqs_iff x y
    case fl.fl x y => exact T.beqs_iff x y
theorem T.beqs_iff : ∀ a b : List T, T.beqs a b = true ↔ a = b
  | [], [] => by simp [T.beqs]
  | [], _ :: _ => by simp [T.beqs]
  | _ :: _, [] => by simp [T.beqs]
  | a :: as, b :: bs => by simp [T.beqs, T.beq_iff a b, T.beqs_iff as bs]
end
instance : DecidableEq T := fun a b => decidable_of_iff _ (T.beq_iff a b)
/-- what an expression is worth: data; an owned list or dict (tl, dt); one that is borrowed (vw, dv) -/
inductive D where
  | s (t : T) | tl (xs : List T) | vw (xs : List T) | dt (k : Bool) (kvs : List (T × T)) | dv (k : Bool) (kvs : List (T × T))
  deriving Inhabited, Repr, DecidableEq
/-- what stands in the logical heap -/
inductive O where
  | lst (xs : List T) | dct (k : Bool) (kvs : List (T × T))
  deriving Inhabited, Repr, DecidableEq
abbrev LH := List O
abbrev Sg := List (Option D)
inductive Bop where | add | sub | mul | fdiv | mod | pow
  deriving DecidableEq, Repr
inductive Cop where | eq | ne | lt | le | gt | ge | is | isn | inn | nin
  deriving DecidableEq, Repr
inductive Ty where | int | bool | str | tup | lst | dct
  deriving DecidableEq, Repr
inductive Bi where | len | all | any | sum | tuple | list | sorted | repr | min | max | abs | str | int | dict | set | bool
  deriving DecidableEq, Repr
/-- calls of a form of their own: sorted(set(a)), a[::-1] -/
inductive Spk where | sset | rev
  deriving DecidableEq, Repr
inductive Me where | join | split | get | index | upper | count
  deriving DecidableEq, Repr
inductive Tg where | n (i : Nat) | t (ts : List Tg)
  deriving Repr
mutual
inductive Ex where
  | c (t : T) | v (i : Nat) | g (k : Nat) | gin (neg : Bool) (a : Ex) (k : Nat) | gix (k : Nat) (a : Ex) | fr (f : Nat)
  | bin (op : Bop) (a b : Ex) | neg (a : Ex)
  | cmp (op : Cop) (a b : Ex) | chn (p q : Cop) (a b c : Ex)
  | not (a : Ex) | and (es : List Ex) | or (es : List Ex) | ite (c a b : Ex)
  | tup (es : List Ex) | lst (es : List Ex) | dsp (k : Bool) (es : List Ex)
  | ix (a i : Ex) | sl (a : Ex) (lo hi : Option Ex)
  | lc (elt : Ex) (tg : Tg) (it : Ix) (cnd : List Ex) (own : List Nat)
  | call (f : Nat) (as : List Ex) | calv (i : Nat) (as : List Ex)
  | bi (b : Bi) (as : List Ex) | bix (b : Bi) (it : Ix)
  | me (m : Me) (o : Ex) (as : List Ex)
  | isi (a : Ex) (ts : List Ty)
  | sp (k : Spk) (as : List Ex)
  | fx (a : Ex)
inductive Ix where
  | e (a : Ex) | rng (as : List Ex) | enm (a : Ex) | zp (as : List Ex) | itm (a : Ex) | vls (a : Ex)
end
inductive Sx where
  | set (own : Bool) (i : Nat) (e : Ex) | unp (tg : Tg) (e : Ex) | par (is : List (Bool × Nat)) (es : List Ex)
  | put (o k e : Ex) | app (o e : Ex) | ext (o e : Ex) | clr (o : Ex) | sdf (o k e : Ex) | aug (i : Nat) (op : Bop) (e : Ex)
  | ex (e : Ex) | iff (c : Ex) (a b : List Sx) | for (tg : Tg) (it : Ix) (body : List Sx) | whl (c : Ex) (body : List Sx)
  | ret (e : Ex) | rtv (i : Nat) | rtn | pas | cnt | brk | bad
/-- an error that is raised: the class, its one field -/
structure Er where
  cls : Nat
  arg : Option T
inductive R (α : Type) where
  | ok (a : α) (h : LH) | exc (x : Er) (h : LH) | bad
def R.bd {α β : Type} (r : R α) (f : α → LH → R β) : R β := match r with
  | .ok a h => f a h
  | .exc x h => .exc x h
  | .bad => .bad
theorem bd_ok {α β : Type} (a : α) (h : LH) (f : α → LH → R β) : (R.ok a h).bd f = f a h := rfl
theorem bd_bad {α β : Type} (f : α → LH → R β) : (R.bad).bd f = .bad := rfl
theorem bd_exc {α β : Type} (x : Er) (h : LH) (f : α → LH → R β) : (R.exc x h).bd f = .exc x h := rfl
def toR {α : Type} (o : Option α) (h : LH) : R α := match o with
  | some a => .ok a h
  | none => .bad
theorem toR_some {α : Type} (a : α) (h : LH) : toR (some a) h = .ok a h := rfl
theorem toR_none {α : Type} (h : LH) : toR (none : Option α) h = .bad := rfl
inductive F where
  | nx (s : Sg) (h : LH) | ret (d : D) (h : LH) | brk (s : Sg) (h : LH) | ct (s : Sg) (h : LH) | exc (x : Er) (h : LH) | bad
structure Df where
  np : Nat
  ns : Nat
  body : List Sx
structure Pg where
  df : Nat → Option Df
  gl : Nat → Option T
  gd : Nat → Option (List (T × T))
/-- an owned thing moves into the logical heap -/
def fix : D → LH → R T
  | .s t, h => .ok t h
  | .tl xs, h => .ok (.ref h.length) (h ++ [.lst xs])
  | .dt k kvs, h => .ok (.ref h.length) (h ++ [.dct k kvs])
  | _, _ => .bad
/-- as an argument of a def: owned things are lent -/
def lend : D → D
  | .tl xs => .vw xs
  | .dt k kvs => .dv k kvs
  | d => d
def lstOf : D → LH → Option (List T)
  | .tl xs, _ => some xs
  | .vw xs, _ => some xs
  | .s (.fl xs), _ => some xs
  | .s (.ref n), h => match h[n]? with
    | some (.lst xs) => some xs
    | _ => none
  | _, _ => none
/-- .. one that is not locked -/
def lstM : D → LH → Option (List T)
  | .tl xs, _ => some xs
  | .vw xs, _ => some xs
  | .s (.ref n), h => match h[n]? with
    | some (.lst xs) => some xs
    | _ => none
  | _, _ => none
def dctOf : D → LH → Option (Bool × List (T × T))
  | .dt k kvs, _ => some (k, kvs)
  | .dv k kvs, _ => some (k, kvs)
  | .s (.ref n), h => match h[n]? with
    | some (.dct k kvs) => some (k, kvs)
    | _ => none
  | _, _ => none
/-- a list or a tuple -/
def seqOf : D → LH → Option (List T)
  | .s (.tup xs), _ => some xs
  | d, h => lstOf d h
/-- what is walked, and the places of the logical heap that must stay meanwhile -/
def itOf : D → LH → Option (List T × List Nat)
  | .s (.tup xs), _ => some (xs, [])
  | .s (.str cs), _ => some (cs.map fun c => .str [c], [])
  | .tl xs, _ => some (xs, [])
  | .vw xs, _ => some (xs, [])
  | .s (.fl xs), _ => some (xs, [])
  | .s (.ref n), h => match h[n]? with
    | some (.lst xs) => some (xs, [n])
    | _ => none
  | _, _ => none
/-- a borrowed list is walked by its name alone -/
def itX (a : Ex) (d : D) (h : LH) : Option (List T × List Nat) := match d with
  | .vw xs => match a with
    | .v _ => some (xs, [])
    | _ => none
  | d => itOf d h
def stay (gs : List Nat) (h0 h : LH) : Bool := gs.all fun n => decide (h[n]? = h0[n]?)
theorem stay_nil (h0 h : LH) : stay [] h0 h = true := rfl
/-! ### data as a whole -/
mutual
def datT : T → Option PyData
  | .non => some .none
  | .bl b => some (.bool b)
  | .int i => some (.int i)
  | .str s => some (.str ⟨s.toArray⟩)
  | .tup xs => (datTs xs).map .tuple
  | .ref _ => none
  | .fn _ => none
  | .fl xs => (datTs xs).map .list
def datTs : List T → Option (List PyData)
  | [] => some []
  | x :: xs => match datT x, datTs xs with
    | some d, some ds => some (d :: ds)
    | _, _ => none
end
/-- lists of the logical heap are looked into, to a depth -/
def dat1 (h : LH) : T → Option PyData
  | .ref n => match h[n]? with
    | some (.lst xs) => (datTs xs).map .list
    | _ => none
  | t => datT t
def dat1s (h : LH) : List T → Option (List PyData)
  | [] => some []
  | x :: xs => match dat1 h x, dat1s h xs with
    | some d, some ds => some (d :: ds)
    | _, _ => none
def datD (h : LH) : D → Option PyData
  | .tl xs => (dat1s h xs).map .list
  | .vw xs => (dat1s h xs).map .list
  | .s (.ref n) => match h[n]? with
    | some (.lst xs) => (dat1s h xs).map .list
    | _ => none
  | .s (.tup xs) => (dat1s h xs).map .tuple
  | .s t => datT t
  | _ => none
def eqN (x y : D) (h : LH) : Option Bool := match datD h x, datD h y with
  | some d, some e => if SeqAt.shaped d && SeqAt.shaped e then some (PyData.eqv d e) else none
  | _, _ => none
/-- two ints, two texts -/
def eqS (x y : D) : Option Bool := match x, y with
  | .s (.str a), .s (.str b) => some (decide (a = b))
  | .s (.int a), .s (.int b) => some (decide (a = b))
  | _, _ => none
def eqL (x y : D) (h : LH) : Option Bool := match x, y with
  | .s (.tup []), .s (.tup ys) => some ys.isEmpty
  | .s (.tup xs), .s (.tup []) => some xs.isEmpty
  | x, y => match lstOf x h, lstOf y h with
    | some a, some b => if a.length = b.length then eqN x y h else some false
    | _, _ => eqN x y h
def eqD (x y : D) (h : LH) : Option Bool := match eqS x y with
  | some b => some b
  | none => eqL x y h
def flatT : T → Bool
  | .non => true | .bl _ => true | .int _ => true | .str _ => true | _ => false
/-- dicts that hold the same flat things -/
def sameKV (a b : List (T × T)) : Bool := decide (a = b) && a.all (fun p => flatT p.2) && decide ((a.map Prod.fst).Nodup)
def neD (x y : D) (h : LH) : Option Bool := match dctOf x h, dctOf y h with
  | some (k, a), some (k', b) => if !k && !k' && sameKV a b then some false else none
  | _, _ => match eqS x y with
    | some b => some (!b)
    | none => (eqN x y h).map fun b => !b
/-- == of flat data -/
def eqF : T → T → Bool
  | .non, .non => true
  | .bl a, .bl b => a == b
  | .int a, .int b => a == b
  | .bl a, .int b => (if a then 1 else 0) == b
  | .int a, .bl b => a == (if b then 1 else 0)
  | .str a, .str b => a == b
  | _, _ => false
/-! ### operators -/
def sizeOk (n : Nat) : Bool := decide (n ≤ 16777216)
def mulOk (i j : Int) : Bool := decide ((-(2 ^ 64) < i ∧ i < 2 ^ 64) ∨ (-(2 ^ 64) < j ∧ j < 2 ^ 64))
def divOk (j : Int) : Bool := decide (0 < j ∧ j < 2 ^ 64)
def powOk (i j : Int) : Bool := decide (0 ≤ j ∧ j ≤ 1000000 ∧ -(2 ^ 64) < i ∧ i < 2 ^ 64)
def binD (op : Bop) (x y : D) (h : LH) : Option D := match op, x, y with
  | .add, .s (.int i), .s (.int j) => some (.s (.int (i + j)))
  | .sub, .s (.int i), .s (.int j) => some (.s (.int (i - j)))
  | .mul, .s (.int i), .s (.int j) => if mulOk i j then some (.s (.int (i * j))) else none
  | .fdiv, .s (.int i), .s (.int j) => if divOk j then some (.s (.int (i / j))) else none
  | .mod, .s (.int i), .s (.int j) => if decide (0 < j) then some (.s (.int (i % j))) else none
  | .pow, .s (.int i), .s (.int j) => if powOk i j then some (.s (.int (i ^ j.toNat))) else none
  | .add, .s (.str a), .s (.str b) => if sizeOk (a.length + b.length) then some (.s (.str (a ++ b))) else none
  | .add, .s (.tup a), .s (.tup b) => if sizeOk (a.length + b.length) then some (.s (.tup (a ++ b))) else none
  | .add, x, y => match lstM x h, lstM y h with
    | some a, some b => if sizeOk (a.length + b.length) then some (.tl (a ++ b)) else none
    | _, _ => none
  | .mul, x, .s (.int j) => match lstM x h with
    | some a => if decide (-(2 ^ 62) < j ∧ j < 2 ^ 62) && sizeOk (a.length * j.toNat) then some (.tl (List.replicate j.toNat a).flatten) else none
    | none => none
  | _, _, _ => none
def intOf : D → Option Int
  | .s (.int i) => some i
  | _ => none
def strOf : D → Option (List Nat)
  | .s (.str i) => some i
  | _ => none
def isScal : D → Bool
  | .s .non => true | .s (.bl _) => true | _ => false
/-- a key of a dict: an int, a text; a tuple of these -/
def keyB : T → Bool
  | .int _ => true | .str _ => true | _ => false
def isInt : T → Bool
  | .int _ => true | _ => false
def isStrT : T → Bool
  | .str _ => true | _ => false
/-- a tuple that no constant of a module is: ints and texts together -/
def mixB (xs : List T) : Bool := xs.any isInt && xs.any isStrT
def keyOk (k : Bool) : T → Bool
  | .tup xs => k && xs.all keyB && mixB xs
  | t => !k && keyB t
def lookT (x : T) : List (T × T) → Option T
  | [] => none
  | (k, v) :: r => if k = x then some v else lookT x r
def putT (x v : T) (kvs : List (T × T)) : List (T × T) :=
  if (kvs.any fun p => decide (p.1 = x)) = true then kvs.map (fun p => if p.1 = x then (p.1, v) else p) else kvs ++ [(x, v)]
def toT : D → Option T
  | .s t => some t
  | _ => none
/-- in a list of data of any depth -/
def inN (x y : D) (h : LH) : Option Bool := match datD h x, datD h y with
  | some d, some (.list ds) => if SeqAt.shaped d && SeqAt.shaped (.list ds) then some (ds.any fun z => PyData.eqv z d) else none
  | _, _ => none
def inD (x y : D) (h : LH) : Option Bool := match x, y with
  | .s (.str a), .s (.str b) => some (!(Builtin.Str.occurrences ⟨b.toArray⟩ ⟨a.toArray⟩ 0 b.length 1).isEmpty)
  | .s t, y => match dctOf y h with
    | some (k, kvs) => if keyOk k t then some (lookT t kvs).isSome else none
    | none => match seqOf y h with
      | some xs => if flatT t && xs.all flatT then some (xs.any fun z => eqF z t) else inN (.s t) y h
      | none => none
  | _, _ => none
def cmpI (f : Int → Int → Bool) (x y : D) : Option Bool := match x, y with
  | .s (.int i), .s (.int j) => some (f i j)
  | _, _ => none
def cmpD (op : Cop) (x y : D) (h : LH) : Option Bool := match op with
  | .eq => eqD x y h
  | .ne => neD x y h
  | .lt => cmpI (fun i j => decide (i < j)) x y
  | .le => cmpI (fun i j => decide (i ≤ j)) x y
  | .gt => cmpI (fun i j => decide (j < i)) x y
  | .ge => cmpI (fun i j => decide (j ≤ i)) x y
  | .is => match y with
    | .s .non => some (decide (x = .s .non))
    | .s (.bl b) => match x with
      | .s (.bl a) => some (decide (a = b))
      | _ => none
    | _ => none
  | .isn => match y with
    | .s .non => some (!decide (x = .s .non))
    | .s (.bl b) => match x with
      | .s (.bl a) => some (!decide (a = b))
      | _ => none
    | _ => none
  | .inn => inD x y h
  | .nin => (inD x y h).map fun b => !b
def atT {α : Type} (xs : List α) (i : Int) : Option α := L2.atI xs i
def ixD (x y : D) (h : LH) : Option D := match y with
  | .s (.int i) => match x with
    | .s (.str cs) => (atT cs i).map fun c => .s (.str [c])
    | x => match dctOf x h with
      | some (k, kvs) => if k then none else (lookT (.int i) kvs).map .s
      | none => match seqOf x h with
        | some xs => (atT xs i).map .s
        | none => none
  | .s t => match dctOf x h with
    | some (k, kvs) => if keyOk k t then (lookT t kvs).map .s else none
    | none => none
  | _ => none
def cutT {α : Type} (xs : List α) (lo hi : Option Int) : List α :=
  (xs.drop (HT.sIx xs.length 0 lo)).take (HT.sIx xs.length xs.length hi - HT.sIx xs.length 0 lo)
def slD (x : D) (lo hi : Option Int) (h : LH) : Option D := match x with
  | .s (.str cs) => some (.s (.str (cutT cs lo hi)))
  | .s (.tup xs) => some (.s (.tup (cutT xs lo hi)))
  | x => (lstOf x h).map fun xs => .tl (cutT xs lo hi)
def tyD (x : D) (h : LH) : Option Ty := match x with
  | .s (.int _) => some .int
  | .s (.bl _) => some .bool
  | .s (.str _) => some .str
  | .s (.tup _) => some .tup
  | .s (.fl _) => some .lst
  | .s (.ref n) => match h[n]? with
    | some (.lst _) => some .lst
    | some (.dct _ _) => some .dct
    | none => none
  | .tl _ => some .lst
  | .vw _ => some .lst
  | .dt _ _ => some .dct
  | .dv _ _ => some .dct
  | _ => none
/-- a built-in type is one: bool is an int -/
def tyIn (t : Ty) (ts : List Ty) : Bool := ts.contains t || (decide (t = .bool) && ts.contains .int)
def isiD (x : D) (ts : List Ty) (h : LH) : Option Bool := match x with
  | .s .non => some false
  | x => (tyD x h).map fun t => tyIn t ts
def blsOf : List T → Option (List Bool)
  | [] => some []
  | .bl b :: r => (blsOf r).map fun bs => b :: bs
  | _ :: _ => none
def intsOf : List T → Option (List Int)
  | [] => some []
  | .int b :: r => (intsOf r).map fun bs => b :: bs
  | _ :: _ => none
def strsOf : List T → Option (List (List Nat))
  | [] => some []
  | .str b :: r => (strsOf r).map fun bs => b :: bs
  | _ :: _ => none
def reprD (h : LH) (x : D) : Option D := match datD h x with
  | some d => if d.showable && sizeOk d.shown.length && decide (d.depth ≤ 60) && !d.hasDict then some (.s (.str d.shown.cps.toList)) else none
  | none => none
def one1 (as : List D) (f : D → Option D) : Option D := match as with
  | [x] => f x
  | _ => none
def biLen (h : LH) (x : D) : Option D := match x with
  | .s (.str cs) => some (.s (.int cs.length))
  | x => match dctOf x h with
    | some (k, kvs) => if k then none else some (.s (.int kvs.length))
    | none => (seqOf x h).map fun xs => .s (.int xs.length)
def biAll (h : LH) (x : D) : Option D := match lstOf x h with
  | some xs => (blsOf xs).map fun bs => .s (.bl (bs.all id))
  | none => none
def biAny (h : LH) (x : D) : Option D := match lstOf x h with
  | some xs => (blsOf xs).map fun bs => .s (.bl (bs.any id))
  | none => none
def biSum (h : LH) (x : D) : Option D := match lstOf x h with
  | some xs => (intsOf xs).map fun bs => .s (.int bs.sum)
  | none => none
def biTup (h : LH) (x : D) : Option D := match x with
  | .s (.tup xs) => some (.s (.tup xs))
  | x => (lstOf x h).map fun xs => .s (.tup xs)
def biLst (h : LH) (x : D) : Option D := match dctOf x h with
  | some (k, kvs) => if k then none else some (.tl (kvs.map fun p => p.1))
  | none => (seqOf x h).map fun xs => .tl xs
/-- pairs whose first ones are keys -/
def prsT : List T → Option (List (T × T))
  | [] => some []
  | .tup [k, v] :: r => if keyB k then (prsT r).map fun q => (k, v) :: q else none
  | _ :: _ => none
def mrg (kvs : List (T × T)) : List (T × T) := kvs.foldl (fun acc p => putT p.1 p.2 acc) []
/-- dict(xs) of a list of pairs -/
def biDict (h : LH) (x : D) : Option D := match lstOf x h with
  | some xs => (prsT xs).map fun kvs => .dt false (mrg kvs)
  | none => none
def biMin (as : List D) : Option D := match as with
  | [.s (.int i), .s (.int j)] => some (.s (.int (if j < i then j else i)))
  | _ => none
def biMax (as : List D) : Option D := match as with
  | [.s (.int i), .s (.int j)] => some (.s (.int (if j > i then j else i)))
  | _ => none
def biAbs (x : D) : Option D := match x with
  | .s (.int i) => some (.s (.int (if i < 0 then -i else i)))
  | _ => none
/-- the text of an int -/
def txtI (i : Int) : List Nat := (Str.ofString (toString i)).cps.toList
def biStr (x : D) : Option D := match x with
  | .s (.int i) => if decide (i.natAbs.log2 < 1920) && sizeOk (txtI i).length then some (.s (.str (txtI i))) else none
  | .s (.str s) => some (.s (.str s))
  | _ => none
def biInt (x : D) : Option D := match x with
  | .s (.int i) => some (.s (.int i))
  | .s (.bl b) => some (.s (.int (if b then 1 else 0)))
  | .s (.str s) => if decide (s.length ≤ 640) then (intText? ⟨s.toArray⟩).map fun n => .s (.int n) else none
  | _ => none
def insI (x : Int) : List Int → List Int
  | [] => [x]
  | y :: ys => if x ≤ y then x :: y :: ys else y :: insI x ys
def srtI : List Int → List Int
  | [] => []
  | x :: xs => insI x (srtI xs)
/-- sorted: a list of ints, a dict whose keys are ints -/
def biSort (h : LH) (x : D) : Option D := match dctOf x h with
  | some (k, kvs) => if k then none else match intsOf (kvs.map fun p => p.1) with
    | some is => if decide (is.length < 64) then some (.tl ((srtI is).map .int)) else none
    | none => none
  | none => match lstOf x h with
    | some xs => (intsOf xs).map fun is => .tl ((srtI is).map .int)
    | none => none
def insU (x : Int) : List Int → List Int
  | [] => [x]
  | y :: ys => if x < y then x :: y :: ys else if x = y then y :: ys else y :: insU x ys
/-- rising, each once -/
def srtU : List Int → List Int
  | [] => []
  | x :: xs => insU x (srtU xs)
def ssD (x : D) (h : LH) : Option D := match lstOf x h with
  | some xs => match intsOf xs with
    | some is => if decide (is.length < 64) then some (.tl ((srtU is).map .int)) else none
    | none => none
  | none => none
def revD (x : D) (h : LH) : Option D := (lstOf x h).map fun xs => .tl xs.reverse
def spD (k : Spk) (as : List D) (h : LH) : Option D := match k with
  | .sset => match as with
    | [x] => ssD x h
    | _ => none
  | .rev => match as with
    | [x] => revD x h
    | _ => none
def biD (b : Bi) (as : List D) (h : LH) : Option D := match b with
  | .len => one1 as (biLen h)
  | .all => one1 as (biAll h)
  | .any => one1 as (biAny h)
  | .sum => one1 as (biSum h)
  | .tuple => one1 as (biTup h)
  | .list => one1 as (biLst h)
  | .repr => one1 as (reprD h)
  | .min => biMin as
  | .max => biMax as
  | .abs => one1 as biAbs
  | .str => one1 as biStr
  | .int => one1 as biInt
  | .sorted => one1 as (biSort h)
  | .dict => one1 as (biDict h)
  | _ => none
/-- the pieces of a text between the signs c -/
def splitC (c : Nat) : List Nat → List (List Nat)
  | [] => [[]]
  | x :: r => if x = c then [] :: splitC c r else match splitC c r with
    | [] => [[x]]
    | p :: ps => (x :: p) :: ps
def joinC (sep : List Nat) : List (List Nat) → List Nat
  | [] => []
  | [x] => x
  | x :: r => x ++ sep ++ joinC sep r
def meJoin (h : LH) (o : D) (as : List D) : Option D := match o, as with
  | .s (.str sep), [x] => match lstOf x h with
    | some xs => match strsOf xs with
      | some ss => if sizeOk ((ss.map List.length).sum + ss.length * sep.length) then some (.s (.str (joinC sep ss))) else none
      | none => none
    | none => none
  | _, _ => none
def meSplit (o : D) (as : List D) : Option D := match o, as with
  | .s (.str cs), [.s (.str [c])] => if sizeOk (cs.length + 2) && (Txt.split ⟨cs.toArray⟩ ⟨#[c]⟩).all fun z => sizeOk z.length then some (.tl ((Txt.split ⟨cs.toArray⟩ ⟨#[c]⟩).map fun z => .str z.cps.toList)) else none
  | _, _ => none
def meGet (h : LH) (o : D) (as : List D) : Option D := match as with
  | [.s t, .s d] => match dctOf o h with
    | some (k, kvs) => if keyOk k t then some (.s ((lookT t kvs).getD d)) else none
    | none => none
  | _ => none
def meIndex (o : D) (as : List D) : Option D := match o, as with
  | .s (.str cs), [.s (.str z)] => match Builtin.Str.occurrences ⟨cs.toArray⟩ ⟨z.toArray⟩ 0 (⟨cs.toArray⟩ : Str).length 1 with
    | i :: _ => some (.s (.int (i : Nat)))
    | [] => none
  | _, _ => none
def meD (m : Me) (o : D) (as : List D) (h : LH) : Option D := match m with
  | .join => meJoin h o as
  | .split => meSplit o as
  | .get => meGet h o as
  | .index => meIndex o as
  | _ => none
def isStr : D → Bool
  | .s (.str _) => true
  | _ => false
/-- what may be asked for a method -/
def meRecv (m : Me) (o : D) (h : LH) : Bool := match m with
  | .join => isStr o
  | .split => isStr o
  | .get => (dctOf o h).isSome
  | .index => isStr o
  | _ => false
/-! ### targets -/
mutual
def bindG : Tg → T → Sg → Option Sg
  | .n i, t, s => some (s.set i (some (.s t)))
  | .t ts, .tup xs, s => bindGs ts xs s
  | .t _, _, _ => none
def bindGs : List Tg → List T → Sg → Option Sg
  | [], [], s => some s
  | g :: gs, x :: xs, s => match bindG g x s with
    | some s' => bindGs gs xs s'
    | none => none
  | _, _, _ => none
end
def wipG (s : Sg) : List Nat → Sg
  | [] => s
  | v :: vs => (wipG s vs).set v none
def lcL (f : T → LH → R (Option T)) (g : LH → Bool) : List T → List T → LH → R (List T)
  | [], acc, h => if g h then .ok acc h else .bad
  | x :: xs, acc, h => if g h then match f x h with
      | .ok (some t) h' => lcL f g xs (acc ++ [t]) h'
      | .ok none h' => lcL f g xs acc h'
      | .exc x h' => .exc x h'
      | .bad => .bad
    else .bad
def forL (f : T → Sg → LH → F) (g : LH → Bool) : List T → Sg → LH → F
  | [], s, h => if g h then .nx s h else .bad
  | x :: xs, s, h => if g h then match f x s h with
      | .nx s' h' => forL f g xs s' h'
      | .ct s' h' => forL f g xs s' h'
      | .brk s' h' => .nx s' h'
      | r => r
    else .bad
def whlL (c : Sg → LH → R Bool) (f : Sg → LH → F) : Nat → Sg → LH → F
  | 0, _, _ => .bad
  | n + 1, s, h => match c s h with
    | .ok true h1 => match f s h1 with
      | .nx s' h' => whlL c f n s' h'
      | .ct s' h' => whlL c f n s' h'
      | .brk s' h' => .nx s' h'
      | r => r
    | .ok false h1 => .nx s h1
    | .exc x h1 => .exc x h1
    | .bad => .bad
def truD (d : D) (h : LH) : R Bool := match d with
  | .s (.bl b) => .ok b h
  | _ => .bad
def rngT (lo : Int) (n : Nat) : List T := (List.range n).map fun (k : Nat) => T.int (lo + (k : Int))
def rngD : List D → Option (List T)
  | [.s (.int n)] => if decide (n ≤ 16777216) && decide (-(2 ^ 62) ≤ n) then some (rngT 0 n.toNat) else none
  | [.s (.int a), .s (.int b)] => if decide (-(2 ^ 61) ≤ a ∧ a < 2 ^ 61 ∧ -(2 ^ 61) ≤ b ∧ b < 2 ^ 61 ∧ b - a ≤ 16777216) then some (rngT a (b - a).toNat) else none
  | _ => none
def enmT : Nat → List T → List T
  | _, [] => []
  | k, x :: xs => .tup [.int (k : Int), x] :: enmT (k + 1) xs
def zip2 : List T → List T → List T
  | a :: as, b :: bs => .tup [a, b] :: zip2 as bs
  | _, _ => []
def zip3 : List T → List T → List T → List T
  | a :: as, b :: bs, c :: cs => .tup [a, b, c] :: zip3 as bs cs
  | _, _, _ => []
def zipD : List Ex → List D → LH → Option (List T × List Nat)
  | [p, q], [x, y], h => match itX p x h, itX q y h with
    | some (a, g), some (b, g') => some (zip2 a b, g ++ g')
    | _, _ => none
  | [p, q, o], [x, y, z], h => match itX p x h, itX q y h, itX o z h with
    | some (a, g), some (b, g'), some (c, g'') => some (zip3 a b c, g ++ g' ++ g'')
    | _, _, _ => none
  | _, _, _ => none
def prs : List T → List (T × T)
  | k :: v :: r => (k, v) :: prs r
  | _ => []
def dspD (k : Bool) (ts : List T) : Option D := if decide (ts.length ≤ 30) && (prs ts).all fun p => !k && keyB p.1 then some (.dt k (mrg (prs ts))) else none
/-- pairs of ints, sorted -/
def lexP (p q : Int × Int) : Bool := decide (p.1 < q.1) || (decide (p.1 = q.1) && decide (p.2 < q.2))
def insP (x : Int × Int) : List (Int × Int) → List (Int × Int)
  | [] => [x]
  | y :: ys => if lexP y x then y :: insP x ys else x :: y :: ys
def srtP : List (Int × Int) → List (Int × Int)
  | [] => []
  | x :: xs => insP x (srtP xs)
def prsI : List T → Option (List (Int × Int))
  | [] => some []
  | .tup [.int a, .int b] :: r => (prsI r).map fun q => (a, b) :: q
  | _ :: _ => none
/-- one thing walked at once -/
def bixD (b : Bi) (xs : List T) : Option D := match b with
  | .list => some (.tl xs)
  | .sorted => (prsI xs).map fun ps => .tl ((srtP ps).map fun p => .tup [.int p.1, .int p.2])
  | _ => none
def optI : Option D → Option (Option Int)
  | none => some none
  | some (.s (.int i)) => some (some i)
  | _ => none
mutual
def evE (P : Pg) (G : Nat → List D → LH → R D) : Ex → Sg → LH → R D
  | .c t, _, h => .ok (.s t) h
  | .v i, s, h => match s[i]? with
    | some (some d) => .ok (lend d) h
    | _ => .bad
  | .g k, _, h => match P.gl k with
    | some t => .ok (.s t) h
    | none => .bad
  | .gin neg a k, s, h => (evE P G a s h).bd fun x h1 => match x with
    | .s (.str z) => match P.gd k with
      | some kvs => .ok (.s (.bl (if neg then !(lookT (.str z) kvs).isSome else (lookT (.str z) kvs).isSome))) h1
      | none => .bad
    | _ => .bad
  | .gix k a, s, h => (evE P G a s h).bd fun x h1 => match x with
    | .s (.str z) => match P.gd k with
      | some kvs => (toR (lookT (.str z) kvs) h1).bd fun t h2 => .ok (.s t) h2
      | none => .bad
    | _ => .bad
  | .fr f, _, h => if (P.df f).isSome then .ok (.s (.fn f)) h else .bad
  | .bin op a b, s, h => (evE P G a s h).bd fun x h1 => (evE P G b s h1).bd fun y h2 => toR (binD op x y h2) h2
  | .neg a, s, h => (evE P G a s h).bd fun x h1 => match x with
    | .s (.int i) => .ok (.s (.int (-i))) h1
    | _ => .bad
  | .cmp op a b, s, h => (evE P G a s h).bd fun x h1 => (evE P G b s h1).bd fun y h2 => (toR (cmpD op x y h2) h2).bd fun b h3 => .ok (.s (.bl b)) h3
  | .chn p q a b c, s, h => (evE P G a s h).bd fun x h1 => (evE P G b s h1).bd fun y h2 => (toR (cmpD p x y h2) h2).bd fun r h3 =>
    if r then (evE P G c s h3).bd fun z h4 => (toR (cmpD q y z h4) h4).bd fun r' h5 => .ok (.s (.bl r')) h5 else .ok (.s (.bl false)) h3
  | .not a, s, h => (evE P G a s h).bd fun x h1 => (truD x h1).bd fun b h2 => .ok (.s (.bl (!b))) h2
  | .and es, s, h => evN P G true es s h
  | .or es, s, h => evN P G false es s h
  | .ite c a b, s, h => (evE P G c s h).bd fun x h1 => (truD x h1).bd fun r h2 => if r then evE P G a s h2 else evE P G b s h2
  | .tup es, s, h => (evT P G es s h).bd fun ts h1 => if sizeOk ts.length then .ok (.s (.tup ts)) h1 else .bad
  | .lst es, s, h => (evT P G es s h).bd fun ts h1 => if sizeOk ts.length then .ok (.tl ts) h1 else .bad
  | .dsp k es, s, h => (evT P G es s h).bd fun ts h1 => toR (dspD k ts) h1
  | .ix a i, s, h => (evE P G a s h).bd fun x h1 => (evE P G i s h1).bd fun y h2 => toR (ixD x y h2) h2
  | .sl a lo hi, s, h => (evE P G a s h).bd fun x h1 => (evO P G lo s h1).bd fun l h2 => (evO P G hi s h2).bd fun u h3 => toR (slD x l u h3) h3
  | .lc elt tg it cnd own, s, h => (evI P G it s h).bd fun p h1 => (lcL (fun x h => match bindG tg x (wipG s own) with
      | some s' => (evC P G cnd s' h).bd fun b h2 => if b then (evE P G elt s' h2).bd fun d h3 => (fix d h3).bd fun t h4 => .ok (some t) h4 else .ok none h2
      | none => .bad) (stay p.2 h1) p.1 [] h1).bd fun ts h5 => .ok (.tl ts) h5
  | .call f as, s, h => (evA P G as s h).bd fun ds h1 => G f ds h1
  | .calv i as, s, h => match s[i]? with
    | some (some (.s (.fn f))) => (evA P G as s h).bd fun ds h1 => G f ds h1
    | _ => .bad
  | .bi b as, s, h => (evL P G as s h).bd fun ds h1 => toR (biD b ds h1) h1
  | .bix b it, s, h => (evI P G it s h).bd fun p h1 => toR (bixD b p.1) h1
  | .me m o as, s, h => (evE P G o s h).bd fun x h1 => if meRecv m x h1 then (evL P G as s h1).bd fun ds h2 => toR (meD m x ds h2) h2 else .bad
  | .isi a ts, s, h => (evE P G a s h).bd fun x h1 => (toR (isiD x ts h1) h1).bd fun b h2 => .ok (.s (.bl b)) h2
  | .sp k as, s, h => (evL P G as s h).bd fun ds h1 => toR (spD k ds h1) h1
  | .fx a, s, h => (evE P G a s h).bd fun d h1 => (fix d h1).bd fun t h2 => .ok (.s t) h2
/-- and (op true), or (op false) -/
def evN (P : Pg) (G : Nat → List D → LH → R D) (op : Bool) : List Ex → Sg → LH → R D
  | [], _, _ => .bad
  | e :: es, s, h => match es with
    | [] => evE P G e s h
    | _ :: _ => (evE P G e s h).bd fun x h1 => (truD x h1).bd fun c h2 => if c = op then evN P G op es s h2 else .ok (.s (.bl c)) h2
/-- items that are stored -/
def evT (P : Pg) (G : Nat → List D → LH → R D) : List Ex → Sg → LH → R (List T)
  | [], _, h => .ok [] h
  | e :: es, s, h => (evE P G e s h).bd fun d h1 => (fix d h1).bd fun t h2 => (evT P G es s h2).bd fun ts h3 => .ok (t :: ts) h3
/-- arguments of a def -/
def evA (P : Pg) (G : Nat → List D → LH → R D) : List Ex → Sg → LH → R (List D)
  | [], _, h => .ok [] h
  | e :: es, s, h => (evE P G e s h).bd fun d h1 => (evA P G es s h1).bd fun ds h2 => .ok (lend d :: ds) h2
/-- arguments of a built-in -/
def evL (P : Pg) (G : Nat → List D → LH → R D) : List Ex → Sg → LH → R (List D)
  | [], _, h => .ok [] h
  | e :: es, s, h => (evE P G e s h).bd fun d h1 => (evL P G es s h1).bd fun ds h2 => .ok (d :: ds) h2
def evO (P : Pg) (G : Nat → List D → LH → R D) : Option Ex → Sg → LH → R (Option Int)
  | none, _, h => .ok none h
  | some e, s, h => (evE P G e s h).bd fun d h1 => match d with
    | .s (.int i) => .ok (some i) h1
    | _ => .bad
/-- the tests of a comprehension: none or one -/
def evC (P : Pg) (G : Nat → List D → LH → R D) : List Ex → Sg → LH → R Bool
  | [], _, h => .ok true h
  | e :: es, s, h => match es with
    | [] => (evE P G e s h).bd fun x h1 => truD x h1
    | _ => .bad
def evI (P : Pg) (G : Nat → List D → LH → R D) : Ix → Sg → LH → R (List T × List Nat)
  | .e a, s, h => (evE P G a s h).bd fun x h1 => toR (itX a x h1) h1
  | .rng as, s, h => (evL P G as s h).bd fun ds h1 => (toR (rngD ds) h1).bd fun xs h2 => .ok (xs, []) h2
  | .enm a, s, h => (evE P G a s h).bd fun x h1 => (toR (itX a x h1) h1).bd fun p h2 => .ok (enmT 0 p.1, p.2) h2
  | .zp as, s, h => (evL P G as s h).bd fun ds h1 => toR (zipD as ds h1) h1
  | .itm a, s, h => (evE P G a s h).bd fun x h1 => match dctOf x h1 with
    | some (k, kvs) => if k then .bad else .ok (kvs.map (fun p => .tup [p.1, p.2]), []) h1
    | none => .bad
  | .vls a, s, h => (evE P G a s h).bd fun x h1 => match dctOf x h1 with
    | some (k, kvs) => if k then .bad else .ok (kvs.map (fun p => p.2), []) h1
    | none => .bad
end
/-! ### statements -/
def R.fl {α : Type} (r : R α) (f : α → LH → F) : F := match r with
  | .ok a h => f a h
  | .exc x h => .exc x h
  | .bad => .bad
theorem fl_ok {α : Type} (a : α) (h : LH) (f : α → LH → F) : (R.ok a h).fl f = f a h := rfl
/-- a value given to a name: kept as it is, or laid into the logical heap -/
def keep (own : Bool) (d : D) (h : LH) : R D := if own then match d with
    | .vw _ => .bad
    | .dv _ _ => .bad
    | d => .ok d h
  else (fix d h).bd fun t h1 => .ok (.s t) h1
def setsG : List (Bool × Nat) → List D → Sg → Option Sg
  | [], [], s => some s
  | (_, i) :: is, d :: ds, s => setsG is ds (s.set i (some d))
  | _, _, _ => none
/-- values for names, from the left -/
def evK (P : Pg) (G : Nat → List D → LH → R D) : List (Bool × Nat) → List Ex → Sg → LH → R (List D)
  | [], [], _, h => .ok [] h
  | (b, _) :: is, e :: es, s, h => (evE P G e s h).bd fun d h1 => (keep b d h1).bd fun d' h2 => (evK P G is es s h2).bd fun ds h3 => .ok (d' :: ds) h3
  | _, _, _, _ => .bad
inductive Pl where
  | own (i : Nat) | at (n : Nat)
/-- where a thing that is changed stands: owned by a name, or in the logical heap -/
def plOf (P : Pg) (G : Nat → List D → LH → R D) (o : Ex) (s : Sg) (h : LH) : R Pl := match o with
  | .v i => match s[i]? with
    | some (some (.tl _)) => .ok (.own i) h
    | some (some (.dt _ _)) => .ok (.own i) h
    | some (some (.s (.ref n))) => .ok (.at n) h
    | _ => .bad
  | o => (evE P G o s h).bd fun d h1 => match d with
    | .s (.ref n) => .ok (.at n) h1
    | _ => .bad
def chg (p : Pl) (s : Sg) (h : LH) (f : O → Option O) : F := match p with
  | .own i => match s[i]? with
    | some (some (.tl xs)) => match f (.lst xs) with
      | some (.lst ys) => .nx (s.set i (some (.tl ys))) h
      | _ => .bad
    | some (some (.dt k kvs)) => match f (.dct k kvs) with
      | some (.dct k' ys) => if k' = k then .nx (s.set i (some (.dt k ys))) h else .bad
      | _ => .bad
    | _ => .bad
  | .at n => match h[n]? with
    | some (.lst xs) => match f (.lst xs) with
      | some (.lst ys) => .nx s (h.set n (.lst ys))
      | _ => .bad
    | some (.dct k kvs) => match f (.dct k kvs) with
      | some (.dct k' ys) => if k' = k then .nx s (h.set n (.dct k ys)) else .bad
      | _ => .bad
    | _ => .bad
/-- it is a dict (true), a list (false) -/
def plIs (b : Bool) (p : Pl) (s : Sg) (h : LH) : Bool := match p with
  | .own i => match s[i]? with
    | some (some (.tl _)) => !b
    | some (some (.dt _ _)) => b
    | _ => false
  | .at n => match h[n]? with
    | some (.lst _) => !b
    | some (.dct _ _) => b
    | none => false
def fPut (k t : T) : O → Option O
  | .lst xs => match k with
    | .int i => (L2.ixN xs.length i).map fun j => .lst (xs.set j t)
    | _ => none
  | .dct b kvs => if keyOk b k && sizeOk (kvs.length + 1) then some (.dct b (putT k t kvs)) else none
def fApp (t : T) : O → Option O
  | .lst xs => if sizeOk (xs.length + 1) then some (.lst (xs ++ [t])) else none
  | _ => none
def fExt (ts : List T) : O → Option O
  | .lst xs => if sizeOk (xs.length + ts.length) then some (.lst (xs ++ ts)) else none
  | _ => none
def fClr : O → Option O
  | .dct false _ => some (.dct false [])
  | _ => none
def fSdf (k t : T) : O → Option O
  | .dct b kvs => if keyOk b k && sizeOk (kvs.length + 1) then some (.dct b (if (lookT k kvs).isSome then kvs else putT k t kvs)) else none
  | _ => none
def slotE : Ex → List Nat
  | .v i => [i]
  | _ => []
def slotI : Ix → List Nat
  | .e a => slotE a
  | .enm a => slotE a
  | .zp as => as.flatMap slotE
  | .itm a => slotE a
  | .vls a => slotE a
  | .rng _ => []
/-- while a name's own list is walked, it is lent -/
def lendS (is : List Nat) (s : Sg) : Sg := match is with
  | [] => s
  | i :: is => match s[i]? with
    | some (some d) => (lendS is s).set i (some (lend d))
    | _ => lendS is s
def isOwn : D → Bool
  | .tl _ => true | .dt _ _ => true | _ => false
def backS (is : List Nat) (s0 s : Sg) : Option Sg := match is with
  | [] => some s
  | i :: is => match s0[i]?, s[i]? with
    | some (some d), some (some d') => if isOwn d then (if d' = lend d then (backS is s0 s).map fun z => z.set i (some d) else none) else backS is s0 s
    | _, _ => backS is s0 s
def backF (is : List Nat) (s0 : Sg) : F → F
  | .nx s h => match backS is s0 s with
    | some s' => .nx s' h
    | none => .bad
  | f => f
def wF : Nat := 1000000
mutual
def evS (P : Pg) (G : Nat → List D → LH → R D) : Sx → Sg → LH → F
  | .set own i e, s, h => (evE P G e s h).fl fun d h1 => (keep own d h1).fl fun d' h2 => .nx (s.set i (some d')) h2
  | .unp tg e, s, h => (evE P G e s h).fl fun d h1 => match d with
    | .s t => match bindG tg t s with
      | some s' => .nx s' h1
      | none => .bad
    | _ => .bad
  | .par is es, s, h => (evK P G is es s h).fl fun ds h1 => match setsG is ds s with
    | some s' => .nx s' h1
    | none => .bad
  | .put o k e, s, h => (evE P G e s h).fl fun d h1 => (fix d h1).fl fun t h2 => (plOf P G o s h2).fl fun p h3 => (evE P G k s h3).fl fun kd h4 => match kd with
    | .s kt => chg p s h4 (fPut kt t)
    | _ => .bad
  | .app o e, s, h => (plOf P G o s h).fl fun p h1 => if plIs false p s h1 then (evE P G e s h1).fl fun d h2 => (fix d h2).fl fun t h3 => chg p s h3 (fApp t) else .bad
  | .ext o e, s, h => (plOf P G o s h).fl fun p h1 => if plIs false p s h1 then (evE P G e s h1).fl fun d h2 => match lstM d h2 with
    | some ts => chg p s h2 (fExt ts)
    | none => .bad
    else .bad
  | .clr o, s, h => (plOf P G o s h).fl fun p h1 => if plIs true p s h1 then chg p s h1 fClr else .bad
  | .sdf o k e, s, h => (plOf P G o s h).fl fun p h1 => if plIs true p s h1 then (evE P G k s h1).fl fun kd h2 => (evE P G e s h2).fl fun d h3 => (fix d h3).fl fun t h4 => match kd with
    | .s kt => chg p s h4 (fSdf kt t)
    | _ => .bad
    else .bad
  | .aug i op e, s, h => match s[i]? with
    | some (some (.s a)) => (evE P G e s h).fl fun d h1 => (toR (binD op (.s a) d h1) h1).fl fun r h2 => match r with
      | .s t => .nx (s.set i (some (.s t))) h2
      | _ => .bad
    | _ => .bad
  | .ex e, s, h => (evE P G e s h).fl fun _ h1 => .nx s h1
  | .iff c a b, s, h => (evE P G c s h).fl fun d h1 => (truD d h1).fl fun r h2 => if r then evB P G a s h2 else evB P G b s h2
  | .for tg it body, s, h => (evI P G it s h).fl fun p h1 => backF (slotI it) s (forL (fun x s h => match bindG tg x s with
      | some s' => evB P G body s' h
      | none => .bad) (stay p.2 h1) p.1 (lendS (slotI it) s) h1)
  | .whl c body, s, h => whlL (fun s h => (evE P G c s h).bd fun d h1 => truD d h1) (fun s h => evB P G body s h) wF s h
  | .ret e, s, h => (evE P G e s h).fl fun d h1 => match d with
    | .vw _ => .bad
    | .dv _ _ => .bad
    | d => .ret d h1
  | .rtv i, s, h => match s[i]? with
    | some (some d) => match d with
      | .vw _ => .bad
      | .dv _ _ => .bad
      | d => .ret d h
    | _ => .bad
  | .rtn, _, h => .ret (.s .non) h
  | .pas, s, h => .nx s h
  | .cnt, s, h => .ct s h
  | .brk, s, h => .brk s h
  | .bad, _, _ => .bad
def evB (P : Pg) (G : Nat → List D → LH → R D) : List Sx → Sg → LH → F
  | [], s, h => .nx s h
  | x :: xs, s, h => match evS P G x s h with
    | .nx s' h' => evB P G xs s' h'
    | f => f
end
def run (P : Pg) (G : Nat → List D → LH → R D) (d : Df) (as : List D) (h : LH) : R D :=
  if as.length = d.np then match evB P G d.body (as.map some ++ List.replicate (d.ns - d.np) none) h with
    | .nx _ h' => .ok (.s .non) h'
    | .ret r h' => .ok r h'
    | .exc x h' => .exc x h'
    | _ => .bad
  else .bad
def callF (P : Pg) : Nat → Nat → List D → LH → R D
  | 0, _, _, _ => .bad
  | n + 1, f, as, h => match P.df f with
    | some d => run P (callF P n) d as h
    | none => .bad
end Rm
set_option Elab.async false
set_option linter.all false
set_option autoImplicit false
set_option maxRecDepth 100000
/-! Soundness 1: how the evaluator's values lie in the hand layer's heap. -/
namespace Rm
open PySem PySem.Spec PyProof.Rows L2
/-- names of the text, by number: defs, constants -/
structure Nm where
  fn : Nat → Str
  gn : Nat → Str
/-- the text's facts that values lean on -/
structure Tx where
  P : Pg
  nm : Nm
  K : PySem.W.Frag
  mg : Str → Option Value
/-- a list that never changes: a locked one, or one of the written part -/
def Frl (K : PySem.W.Frag) (H : Hp) (a : Addr) (vs : List V) : Prop := (∃ o, H a = some (.frz o (.lst vs))) ∨
  ∃ (o : Obj) (its : Array Value) (n : Nat), K.lookup a = some o ∧ o.cls = .type "list" ∧ o.dict = none ∧ o.data = .seq its n ∧ its.size ≤ sizeLine ∧ Vals vs its.toList
theorem Frl.sq {K : PySem.W.Frag} {H : Hp} {a : Addr} {vs : List V} (h : Frl K H a vs) : SqL K H a vs := by
  rcases h with ⟨o, h⟩ | h
  · exact .inl (.inr ⟨o, h⟩)
  · exact .inr h
/-- a tuple; one of ints and texts together is no written one -/
def SqG (K : PySem.W.Frag) (H : Hp) (xs : List T) (a : Addr) (vs : List V) : Prop := SqT K H a vs ∧ (mixB xs = true → H a = some (.tup vs))
theorem SqG.sq {K : PySem.W.Frag} {H : Hp} {xs : List T} {a : Addr} {vs : List V} (h : SqG K H xs a vs) : SqT K H a vs := h.1
section
variable (c : Tx)
mutual
def RepT (r : List Addr) (H : Hp) : T → V → Prop
  | .non, v => v = .non
  | .bl b, v => v = .bl b
  | .int i, v => v = .int i
  | .str s, v => v = .str ⟨s.toArray⟩ ∧ s.length ≤ sizeLine
  | .tup xs, v => ∃ a vs, v = .ref a ∧ SqG c.K H xs a vs ∧ RepTs r H xs vs
  | .ref n, v => ∃ a, r[n]? = some a ∧ v = .ref a
  | .fn f, v => ∃ a, v = .ref a ∧ c.mg (c.nm.fn f) = some (.ref a)
  | .fl xs, v => ∃ a vs, v = .ref a ∧ Frl c.K H a vs ∧ RepTs r H xs vs
def RepTs (r : List Addr) (H : Hp) : List T → List V → Prop
  | [], vs => vs = []
  | x :: xs, vs => ∃ v ws, vs = v :: ws ∧ RepT r H x v ∧ RepTs r H xs ws
end
def RepK (r : List Addr) (H : Hp) : List (T × T) → List (Key × V) → Prop
  | [], kv => kv = []
  | p :: ps, kv => ∃ k v ws, kv = (k, v) :: ws ∧ keyB p.1 = true ∧ RepT c r H p.1 (kV k) ∧ RepT c r H p.2 v ∧ RepK r H ps ws
def keyT : Key → T
  | .inl i => .int i
  | .inr x => .str x.cps.toList
def RepKT (r : List Addr) (H : Hp) : List (T × T) → List (List Key × V) → Prop
  | [], kv => kv = []
  | p :: ps, kv => ∃ k v ws, kv = (k, v) :: ws ∧ p.1 = .tup (k.map keyT) ∧ (∀ x ∈ k, RepT c r H (keyT x) (kV x)) ∧ RepT c r H p.2 v ∧ RepKT r H ps ws
def RepDc (r : List Addr) (H : Hp) (k : Bool) (kvs : List (T × T)) (a : Addr) : Prop :=
  if k then ∃ kv, H a = some (.dT kv) ∧ RepKT c r H kvs kv else ∃ kv, H a = some (.dK kv) ∧ RepK c r H kvs kv
def RepD (r : List Addr) (H : Hp) : D → V → Prop
  | .s t, v => RepT c r H t v
  | .tl xs, v => ∃ a vs, v = .ref a ∧ H a = some (.lst vs) ∧ RepTs c r H xs vs ∧ a ∉ r
  | .vw xs, v => ∃ a vs, v = .ref a ∧ H a = some (.lst vs) ∧ RepTs c r H xs vs ∧ a ∉ r
  | .dt k kvs, v => ∃ a, v = .ref a ∧ RepDc c r H k kvs a ∧ a ∉ r
  | .dv k kvs, v => ∃ a, v = .ref a ∧ RepDc c r H k kvs a ∧ a ∉ r
def RepO (r : List Addr) (H : Hp) (a : Addr) : O → Prop
  | .lst xs => ∃ vs, H a = some (.lst vs) ∧ RepTs c r H xs vs
  | .dct k kvs => RepDc c r H k kvs a
structure HRel (r : List Addr) (h : LH) (H : Hp) : Prop where
  len : r.length = h.length
  nd : r.Nodup
  ob : ∀ (n : Nat) (a : Addr) (o : O), r[n]? = some a → h[n]? = some o → RepO c r H a o
/-- from H to H': places ahead are kept but those of the logical heap; what comes to it is new -/
structure Ext (r : List Addr) (H : Hp) (r' : List Addr) (H' : Hp) : Prop where
  more : ∃ q, r' = r ++ q ∧ ∀ a ∈ q, H a = none
  keep : ∀ a o, H a = some o → a ∉ r → H' a = some o
  tup : ∀ a vs, SqT c.K H a vs → SqT c.K H' a vs
  tp : ∀ a vs, H a = some (.tup vs) → H' a = some (.tup vs)
  frz : ∀ a o u, H a = some (.frz o u) → H' a = some (.frz o u)
  dom : ∀ a, H' a = none → H a = none
def Frs (H : Hp) (d : D) (v : V) : Prop := isOwn d = true → ∀ a, v = .ref a → H a = none
structure SRel (r : List Addr) (H : Hp) (s : Sg) (sv : L2.St) : Prop where
  len : s.length = sv.length
  val : ∀ (i : Nat) (d : D), s[i]? = some (some d) → ∃ v, sv[i]? = some (some v) ∧ RepD c r H d v
def Out {α β : Type} (rep : Hp → List Addr → Hp → α → β → Prop) (r : List Addr) (H : Hp) (res : R α) (Q : β → Hp → Prop) : Prop := match res with
  | .ok a h' => ∀ b r' H', rep H r' H' a b → HRel c r' h' H' → Ext c r H r' H' → Q b H'
  | _ => False
def rD : Hp → List Addr → Hp → D → V → Prop := fun H r' H' d v => RepD c r' H' d v ∧ Frs H d v
def rB : Hp → List Addr → Hp → Bool → Bool → Prop := fun _ _ _ b b' => b' = b
def rT : Hp → List Addr → Hp → T → V → Prop := fun _ r' H' t v => RepT c r' H' t v
def rTs : Hp → List Addr → Hp → List T → List V → Prop := fun _ r' H' t v => RepTs c r' H' t v
end
section
variable {c : Tx} {r r1 r2 r' : List Addr} {H H1 H2 H' : Hp}
theorem Ext.refl : Ext c r H r H := ⟨⟨[], by simp, by simp⟩, fun _ _ h _ => h, fun _ _ h => h, fun _ _ h => h, fun _ _ _ h => h, fun _ h => h⟩
theorem Ext.sg (e : Ext c r H r' H') {xs : List T} {a : Addr} {vs : List V} (h : SqG c.K H xs a vs) : SqG c.K H' xs a vs := ⟨e.tup a vs h.1, fun m => e.tp a vs (h.2 m)⟩
theorem Ext.trans (a : Ext c r H r1 H1) (b : Ext c r1 H1 r2 H2) : Ext c r H r2 H2 := by
  obtain ⟨q, e, n⟩ := a.more
  obtain ⟨q', e', n'⟩ := b.more
  refine ⟨⟨q ++ q', by rw [e', e, List.append_assoc], fun x hx => ?_⟩, fun x o h hx => ?_, fun x vs h => b.tup x vs (a.tup x vs h), fun x vs h => b.tp x vs (a.tp x vs h), fun x o u h => b.frz x o u (a.frz x o u h), fun x h => a.dom x (b.dom x h)⟩
  · rcases List.mem_append.mp hx with z | z
    · exact n x z
    · exact a.dom x (n' x z)
  · refine b.keep x o (a.keep x o h hx) fun z => ?_
    rw [e] at z
    rcases List.mem_append.mp z with z | z
    · exact hx z
    · rw [n x z] at h; cases h
theorem Ext.at (e : Ext c r H r' H') {n : Nat} {a : Addr} (h : r[n]? = some a) : r'[n]? = some a := by
  obtain ⟨q, e, _⟩ := e.more
  rw [e, List.getElem?_append_left (List.getElem?_eq_some_iff.mp h).1]
  exact h
theorem Ext.nin (e : Ext c r H r' H') {a : Addr} {o : HO} (h : H a = some o) (n : a ∉ r) : a ∉ r' := by
  obtain ⟨q, e, z⟩ := e.more
  rw [e]
  intro m
  rcases List.mem_append.mp m with m | m
  · exact n m
  · rw [z a m] at h; cases h
theorem Frl.ext {a : Addr} {vs : List V} (e : Ext c r H r' H') (h : Frl c.K H a vs) : Frl c.K H' a vs := by
  rcases h with ⟨o, h⟩ | h
  · exact .inl ⟨o, e.frz _ _ _ h⟩
  · exact .inr h
mutual
theorem RepT.ext (e : Ext c r H r' H') : ∀ (t : T) (v : V), RepT c r H t v → RepT c r' H' t v
  | .non, v, h => h
  | .bl _, v, h => h
  | .int _, v, h => h
  | .str _, v, h => h
  | .tup xs, v, h => by
    obtain ⟨a, vs, e1, h1, h2⟩ := h
    exact ⟨a, vs, e1, e.sg h1, RepTs.ext e xs vs h2⟩
  | .ref n, v, h => by
    obtain ⟨a, h1, h2⟩ := h
    exact ⟨a, e.at h1, h2⟩
  | .fn f, v, h => h
  | .fl xs, v, h => by
    obtain ⟨a, vs, e1, h1, h2⟩ := h
    exact ⟨a, vs, e1, h1.ext e, RepTs.ext e xs vs h2⟩
theorem RepTs.ext (e : Ext c r H r' H') : ∀ (ts : List T) (vs : List V), RepTs c r H ts vs → RepTs c r' H' ts vs
  | [], vs, h => h
  | x :: xs, vs, h => by
    obtain ⟨v, ws, e1, h1, h2⟩ := h
    exact ⟨v, ws, e1, RepT.ext e x v h1, RepTs.ext e xs ws h2⟩
end
theorem RepK.ext (e : Ext c r H r' H') : ∀ (ts : List (T × T)) (vs : List (Key × V)), RepK c r H ts vs → RepK c r' H' ts vs
  | [], vs, h => h
  | x :: xs, vs, h => by
    obtain ⟨k, v, ws, e1, h0, h1, h2, h3⟩ := h
    exact ⟨k, v, ws, e1, h0, RepT.ext e _ _ h1, RepT.ext e _ _ h2, RepK.ext e xs ws h3⟩
theorem RepKT.ext (e : Ext c r H r' H') : ∀ (ts : List (T × T)) (vs : List (List Key × V)), RepKT c r H ts vs → RepKT c r' H' ts vs
  | [], vs, h => h
  | x :: xs, vs, h => by
    obtain ⟨k, v, ws, e1, h0, h1, h2, h3⟩ := h
    exact ⟨k, v, ws, e1, h0, fun z hz => RepT.ext e _ _ (h1 z hz), RepT.ext e _ _ h2, RepKT.ext e xs ws h3⟩
theorem RepDc.ext {k : Bool} {kvs : List (T × T)} {a : Addr} (e : Ext c r H r' H') (n : a ∉ r) (h : RepDc c r H k kvs a) : RepDc c r' H' k kvs a := by
  unfold RepDc at h ⊢
  cases k with
  | true =>
    obtain ⟨kv, h1, h2⟩ := h
    exact ⟨kv, e.keep _ _ h1 n, RepKT.ext e _ _ h2⟩
  | false =>
    obtain ⟨kv, h1, h2⟩ := h
    exact ⟨kv, e.keep _ _ h1 n, RepK.ext e _ _ h2⟩
theorem RepDc.some {k : Bool} {kvs : List (T × T)} {a : Addr} (h : RepDc c r H k kvs a) : ∃ o, H a = some o := by
  unfold RepDc at h
  cases k with
  | true => obtain ⟨kv, h1, _⟩ := h; exact ⟨_, h1⟩
  | false => obtain ⟨kv, h1, _⟩ := h; exact ⟨_, h1⟩
theorem RepD.ext (e : Ext c r H r' H') {d : D} {v : V} (h : RepD c r H d v) : RepD c r' H' d v := by
  cases d with
  | s t => exact RepT.ext e t v h
  | tl xs =>
    obtain ⟨a, vs, e1, h1, h2, n⟩ := h
    exact ⟨a, vs, e1, e.keep _ _ h1 n, RepTs.ext e _ _ h2, e.nin h1 n⟩
  | vw xs =>
    obtain ⟨a, vs, e1, h1, h2, n⟩ := h
    exact ⟨a, vs, e1, e.keep _ _ h1 n, RepTs.ext e _ _ h2, e.nin h1 n⟩
  | dt k kvs =>
    obtain ⟨a, e1, h1, n⟩ := h
    obtain ⟨o, ho⟩ := h1.some
    exact ⟨a, e1, h1.ext e n, e.nin ho n⟩
  | dv k kvs =>
    obtain ⟨a, e1, h1, n⟩ := h
    obtain ⟨o, ho⟩ := h1.some
    exact ⟨a, e1, h1.ext e n, e.nin ho n⟩
theorem SRel.ext {s : Sg} {sv : L2.St} (e : Ext c r H r' H') (h : SRel c r H s sv) : SRel c r' H' s sv := ⟨h.len, fun i d q => by
  obtain ⟨v, h1, h2⟩ := h.val i d q
  exact ⟨v, h1, h2.ext e⟩⟩
theorem Frs.back {d : D} {v : V} (e : Ext c r H r1 H1) (h : Frs H1 d v) : Frs H d v := fun i a z => e.dom a (h i a z)
theorem Out.mono {α β : Type} {rep : Hp → List Addr → Hp → α → β → Prop} {res : R α} {Q : β → Hp → Prop} (e : Ext c r H r1 H1) (hr : ∀ r' H' a b, rep H1 r' H' a b → rep H r' H' a b) (h : Out c rep r H res Q) : Out c rep r1 H1 res Q := by
  cases res with
  | ok a h' => exact fun b r' H' z hh ee => h b r' H' (hr _ _ _ _ z) hh (e.trans ee)
  | exc x h' => exact h
  | bad => exact h
theorem OutD.mono {res : R D} {Q : VK} (e : Ext c r H r1 H1) (h : Out c (rD c) r H res Q) : Out c (rD c) r1 H1 res Q := h.mono e fun _ _ _ _ z => ⟨z.1, z.2.back e⟩
theorem RepT.inj_tup {xs : List T} {v : V} (h : RepT c r H (.tup xs) v) : ∃ a vs, v = .ref a ∧ SqG c.K H xs a vs ∧ RepTs c r H xs vs := h
theorem RepTs.length : ∀ {xs : List T} {vs : List V}, RepTs c r H xs vs → vs.length = xs.length
  | [], vs, h => by rw [show vs = [] from h]; rfl
  | x :: xs, vs, h => by
    obtain ⟨v, ws, e, _, h2⟩ := h
    rw [e, List.length_cons, List.length_cons, RepTs.length h2]
theorem RepTs.get : ∀ {xs : List T} {vs : List V} {i : Nat} {x : T}, RepTs c r H xs vs → xs[i]? = some x → ∃ v, vs[i]? = some v ∧ RepT c r H x v
  | [], vs, i, x, h, e => by simp at e
  | y :: xs, vs, 0, x, h, e => by
    obtain ⟨v, ws, rfl, h1, h2⟩ := h
    simp at e; subst e
    exact ⟨v, rfl, h1⟩
  | y :: xs, vs, i + 1, x, h, e => by
    obtain ⟨v, ws, rfl, h1, h2⟩ := h
    obtain ⟨w, e1, e2⟩ := RepTs.get (i := i) (x := x) h2 (by simpa using e)
    exact ⟨w, by simpa using e1, e2⟩
theorem RepTs.append : ∀ {xs ys : List T} {vs ws : List V}, RepTs c r H xs vs → RepTs c r H ys ws → RepTs c r H (xs ++ ys) (vs ++ ws)
  | [], ys, vs, ws, h, h' => by rw [show vs = [] from h]; exact h'
  | x :: xs, ys, vs, ws, h, h' => by
    obtain ⟨v, us, rfl, h1, h2⟩ := h
    exact ⟨v, us ++ ws, rfl, h1, RepTs.append h2 h'⟩
theorem RepTs.set {x : T} {v : V} (hx : RepT c r H x v) : ∀ {xs : List T} {vs : List V} (i : Nat), RepTs c r H xs vs → RepTs c r H (xs.set i x) (vs.set i v)
  | [], vs, i, h => by rw [show vs = [] from h]; rfl
  | y :: xs, vs, 0, h => by
    obtain ⟨w, us, rfl, h1, h2⟩ := h
    exact ⟨v, us, rfl, hx, h2⟩
  | y :: xs, vs, i + 1, h => by
    obtain ⟨w, us, rfl, h1, h2⟩ := h
    exact ⟨w, us.set i v, rfl, h1, RepTs.set hx i h2⟩
theorem RepTs.drop : ∀ {xs : List T} {vs : List V} (n : Nat), RepTs c r H xs vs → RepTs c r H (xs.drop n) (vs.drop n)
  | xs, vs, 0, h => h
  | [], vs, n + 1, h => by rw [show vs = [] from h]; rfl
  | y :: xs, vs, n + 1, h => by
    obtain ⟨w, us, rfl, h1, h2⟩ := h
    exact RepTs.drop n h2
theorem RepTs.take : ∀ {xs : List T} {vs : List V} (n : Nat), RepTs c r H xs vs → RepTs c r H (xs.take n) (vs.take n)
  | xs, vs, 0, h => by rw [List.take_zero, List.take_zero]; rfl
  | [], vs, n + 1, h => by rw [show vs = [] from h]; rfl
  | y :: xs, vs, n + 1, h => by
    obtain ⟨w, us, rfl, h1, h2⟩ := h
    exact ⟨w, us.take n, rfl, h1, RepTs.take n h2⟩
/-- a list as it may be read -/
theorem lst_read {d : D} {v : V} {h : LH} {xs : List T} (hd : RepD c r H d v) (hh : HRel c r h H) (e : lstOf d h = some xs) : ∃ a vs, v = .ref a ∧ SqL c.K H a vs ∧ RepTs c r H xs vs := by
  cases d with
  | tl ys =>
    obtain ⟨a, vs, e1, h1, h2, _⟩ := hd
    cases e
    exact ⟨a, vs, e1, .inl (.inl h1), h2⟩
  | vw ys =>
    obtain ⟨a, vs, e1, h1, h2, _⟩ := hd
    cases e
    exact ⟨a, vs, e1, .inl (.inl h1), h2⟩
  | dt k kvs => cases e
  | dv k kvs => cases e
  | s t =>
    cases t with
    | ref n =>
      obtain ⟨a, h1, h2⟩ := hd
      simp only [lstOf] at e
      cases q : h[n]? with
      | none => rw [q] at e; cases e
      | some o =>
        rw [q] at e
        have z := hh.ob n a o h1 q
        cases o with
        | lst ys =>
          cases e
          obtain ⟨vs, z1, z2⟩ := z
          exact ⟨a, vs, h2, .inl (.inl z1), z2⟩
        | dct k kvs => cases e
    | fl ys =>
      cases e
      obtain ⟨a, vs, e1, h1, h2⟩ := hd
      exact ⟨a, vs, e1, h1.sq, h2⟩
    | _ => cases e
end
end Rm
set_option Elab.async false
set_option linter.all false
set_option autoImplicit false
set_option maxRecDepth 100000
/-! Soundness 2: operators, comparisons, subscripts, built-ins, by values. -/
namespace Rm
open PySem PySem.Spec PyProof.Rows L2
theorem sizeOk_le {n : Nat} (h : sizeOk n = true) : n ≤ sizeLine := by
  have : n ≤ 16777216 := of_decide_eq_true h
  rw [sizeLine_eq]; exact this
section
variable {c : Tx} {r r' : List Addr} {H H' : Hp} {h : LH}
theorem Out.some {α β : Type} {rep : Hp → List Addr → Hp → α → β → Prop} {o : Option α} {Q : β → Hp → Prop} (z : Out c rep r H (toR o h) Q) : ∃ a, o = some a ∧ ∀ b r' H', rep H r' H' a b → HRel c r' h H' → Ext c r H r' H' → Q b H' := by
  cases o with
  | none => exact z.elim
  | some a => exact ⟨a, rfl, z⟩
/-- a new object that the logical heap doesn't see -/
theorem SqT.upd {K : PySem.W.Frag} {p a : Addr} {o : HO} {vs : List V} (hp : H p = none) (q : SqT K H a vs) : SqT K (upd H p o) a vs := by
  rcases q with (q | ⟨ob, q⟩) | q
  · exact .inl (.inl (by rw [upd_ne (ne_of_none q hp)]; exact q))
  · exact .inl (.inr ⟨ob, by rw [upd_ne (ne_of_none q hp)]; exact q⟩)
  · exact .inr q
theorem Ext.new {p : Addr} {o : HO} (hp : H p = none) : Ext c r H r (upd H p o) :=
  ⟨⟨[], by simp, by simp⟩, fun a o' q _ => by rw [upd_ne (ne_of_none q hp)]; exact q, fun a vs q => SqT.upd hp q, fun a vs q => by rw [upd_ne (ne_of_none q hp)]; exact q, fun a o' u q => by rw [upd_ne (ne_of_none q hp)]; exact q, fun a q => by
    by_cases e : a = p
    · subst e; exact hp
    · rw [upd_ne e] at q; exact q⟩
theorem HRel.got {n : Nat} {a : Addr} (hh : HRel c r h H) (e : r[n]? = some a) : ∃ o, H a = some o := by
  have l : n < h.length := by rw [← hh.len]; exact (List.getElem?_eq_some_iff.mp e).1
  have z := hh.ob n a h[n] e (List.getElem?_eq_getElem l)
  cases q : h[n] with
  | lst xs => rw [q] at z; obtain ⟨vs, z, _⟩ := z; exact ⟨_, z⟩
  | dct k kvs => rw [q] at z; exact RepDc.some z
theorem HRel.has {a : Addr} (hh : HRel c r h H) (e : a ∈ r) : ∃ o, H a = some o := by
  obtain ⟨n, e⟩ := List.mem_iff_getElem?.mp e
  exact hh.got e
theorem HRel.nin {p : Addr} (hh : HRel c r h H) (hp : H p = none) : p ∉ r := fun e => by
  obtain ⟨o, q⟩ := hh.has e
  rw [hp] at q; cases q
theorem RepO.ext {a : Addr} {o : O} (e : Ext c r H r' H') (k : H' a = H a) (z : RepO c r H a o) : RepO c r' H' a o := by
  cases o with
  | lst xs => obtain ⟨vs, z1, z2⟩ := z; exact ⟨vs, k.trans z1, RepTs.ext e _ _ z2⟩
  | dct b kvs =>
    cases b with
    | true => obtain ⟨kv, z1, z2⟩ := z; exact ⟨kv, k.trans z1, RepKT.ext e _ _ z2⟩
    | false => obtain ⟨kv, z1, z2⟩ := z; exact ⟨kv, k.trans z1, RepK.ext e _ _ z2⟩
theorem HRel.new {p : Addr} {o : HO} (hh : HRel c r h H) (hp : H p = none) : HRel c r h (upd H p o) :=
  ⟨hh.len, hh.nd, fun n a ob e1 e2 => by
    refine RepO.ext (Ext.new hp) ?_ (hh.ob n a ob e1 e2)
    obtain ⟨z, q⟩ := hh.got e1
    exact upd_ne (ne_of_none q hp)⟩
/-- an answer: plain data, the heap as it is -/
theorem fin_T {t : T} {v : V} {Q : VK} (q : ∀ b r' H', rD c H r' H' (.s t) b → HRel c r' h H' → Ext c r H r' H' → Q b H') (hh : HRel c r h H) (z : RepT c r H t v) : Q v H :=
  q v r H ⟨z, fun e => by cases e⟩ hh Ext.refl
theorem fin_tl {ts : List T} {vs : List V} {p : Addr} {Q : VK} (q : ∀ b r' H', rD c H r' H' (.tl ts) b → HRel c r' h H' → Ext c r H r' H' → Q b H') (hh : HRel c r h H) (hp : H p = none) (z : RepTs c r H ts vs) : Q (.ref p) (upd H p (.lst vs)) :=
  q (.ref p) r _ ⟨⟨p, vs, rfl, upd_same, RepTs.ext (Ext.new hp) _ _ z, hh.nin hp⟩, fun _ a e => by cases e; exact hp⟩ (hh.new hp) (Ext.new hp)
theorem fin_tup {ts : List T} {vs : List V} {p : Addr} {Q : VK} (q : ∀ b r' H', rD c H r' H' (.s (.tup ts)) b → HRel c r' h H' → Ext c r H r' H' → Q b H') (hh : HRel c r h H) (hp : H p = none) (z : RepTs c r H ts vs) : Q (.ref p) (upd H p (.tup vs)) :=
  q (.ref p) r _ ⟨⟨p, vs, rfl, ⟨.inl (.inl upd_same), fun _ => upd_same⟩, RepTs.ext (Ext.new hp) _ _ z⟩, fun e => by cases e⟩ (hh.new hp) (Ext.new hp)
theorem lstM_read {d : D} {v : V} {xs : List T} (hd : RepD c r H d v) (hh : HRel c r h H) (e : lstM d h = some xs) : ∃ a vs, v = .ref a ∧ H a = some (.lst vs) ∧ RepTs c r H xs vs := by
  cases d with
  | tl ys =>
    obtain ⟨a, vs, e1, h1, h2, _⟩ := hd
    cases e
    exact ⟨a, vs, e1, h1, h2⟩
  | vw ys =>
    obtain ⟨a, vs, e1, h1, h2, _⟩ := hd
    cases e
    exact ⟨a, vs, e1, h1, h2⟩
  | dt k kvs => cases e
  | dv k kvs => cases e
  | s t =>
    cases t with
    | ref n =>
      obtain ⟨a, h1, h2⟩ := hd
      simp only [lstM] at e
      cases q : h[n]? with
      | none => rw [q] at e; cases e
      | some o =>
        rw [q] at e
        have z := hh.ob n a o h1 q
        cases o with
        | lst ys =>
          cases e
          obtain ⟨vs, z1, z2⟩ := z
          exact ⟨a, vs, h2, z1, z2⟩
        | dct k kvs => cases e
    | _ => cases e
end
def bopOf : Bop → Operator
  | .add => .Add | .sub => .Sub | .mul => .Mult | .fdiv => .FloorDiv | .mod => .Mod | .pow => .Pow
def rBin (c : Tx) (op : Bop) : R2 := fun x y H Q => ∃ d1 d2 h r, RepD c r H d1 x ∧ RepD c r H d2 y ∧ HRel c r h H ∧ Out c (rD c) r H (toR (binD op d1 d2 h) h) Q
section
variable {c : Tx} {X : Cx}
theorem str_app (a b : List Nat) : ((⟨a.toArray⟩ : Str) ++ (⟨b.toArray⟩ : Str)) = ⟨(a ++ b).toArray⟩ := by
  show Str.append _ _ = _
  unfold Str.append
  simp
theorem RepTs.rep {r : List Addr} {H : Hp} {xs : List T} {vs : List V} (z : RepTs c r H xs vs) : ∀ k : Nat, RepTs c r H (List.replicate k xs).flatten (List.replicate k vs).flatten
  | 0 => rfl
  | k + 1 => by
    rw [List.replicate_succ, List.replicate_succ, List.flatten_cons, List.flatten_cons]
    exact z.append (RepTs.rep z k)
theorem bin_ok (eK : X.K = c.K) (op : Bop) : OpR X (binaryOp (bopOf op)) (rBin c op) := by
  intro pins s σ H x y v u Q I rx ry hq
  obtain ⟨d1, d2, h, r, h1, h2, hh, z⟩ := hq
  obtain ⟨d, e, q⟩ := z.some
  unfold binD at e
  split at e
  · obtain rfl := h1; obtain rfl := h2; cases e
    exact op_add pins s σ H _ _ v u Q I rx ry ⟨_, _, rfl, rfl, fin_T q hh rfl⟩
  · obtain rfl := h1; obtain rfl := h2; cases e
    exact op_sub pins s σ H _ _ v u Q I rx ry ⟨_, _, rfl, rfl, fin_T q hh rfl⟩
  · obtain rfl := h1; obtain rfl := h2
    split at e
    · rename_i i j hc
      cases e
      exact op_mul pins s σ H _ _ v u Q I rx ry ⟨_, _, rfl, rfl, (show CMul i j from of_decide_eq_true (p := (-(2 ^ 64) < i ∧ i < 2 ^ 64) ∨ (-(2 ^ 64) < j ∧ j < 2 ^ 64)) hc), fin_T q hh rfl⟩
    · cases e
  · obtain rfl := h1; obtain rfl := h2
    split at e
    · rename_i i j hc
      cases e
      obtain ⟨h0, h9⟩ := of_decide_eq_true hc
      exact op_fdivW pins s σ H _ _ v u Q I rx ry ⟨_, _, rfl, rfl, wide_div (b := 64) h0 (by omega) (by decide) (by decide), fin_T q hh rfl⟩
    · cases e
  · obtain rfl := h1; obtain rfl := h2
    split at e
    · rename_i i j hc
      cases e
      exact op_mod pins s σ H _ _ v u Q I rx ry ⟨_, _, rfl, rfl, of_decide_eq_true hc, fin_T q hh rfl⟩
    · cases e
  · obtain rfl := h1; obtain rfl := h2
    split at e
    · rename_i i j hc
      cases e
      obtain ⟨h0, h5, h6, h7⟩ := of_decide_eq_true hc
      exact op_pow pins s σ H _ _ v u Q I rx ry ⟨_, _, rfl, rfl, ⟨h0, h5, by omega⟩, fin_T q hh rfl⟩
    · cases e
  · obtain ⟨rfl, l1⟩ := h1; obtain ⟨rfl, l2⟩ := h2
    split at e
    · rename_i a b hc
      cases e
      refine op_add_str pins s σ H _ _ v u Q I rx ry ⟨_, _, rfl, rfl, ?_, ?_⟩
      · have := sizeOk_le hc
        show a.toArray.size + b.toArray.size ≤ sizeLine
        simpa using this
      · rw [str_app]
        exact fin_T q hh ⟨rfl, by rw [List.length_append]; exact sizeOk_le hc⟩
    · cases e
  · obtain ⟨a, vs, rfl, s1, t1⟩ := h1; obtain ⟨b, ws, rfl, s2, t2⟩ := h2
    split at e
    · rename_i xs ys hc
      cases e
      rw [← eK] at s1 s2
      refine op_catA pins s σ H _ _ v u Q I rx ry ⟨a, b, vs, ws, rfl, rfl, s1.sq, s2.sq, ?_, ?_⟩
      · rw [t1.length, t2.length]; exact sizeOk_le hc
      · refine ⟨fun e0 => ?_, fun e0 e1 => ?_, fun e0 e1 p hp => ?_⟩
        · have ex : xs = [] := List.eq_nil_of_length_eq_zero (by rw [← t1.length, e0]; rfl)
          subst ex
          exact fin_T q hh ⟨b, ws, rfl, eK ▸ s2, t2⟩
        · have ey : ys = [] := List.eq_nil_of_length_eq_zero (by rw [← t2.length, e1]; rfl)
          subst ey
          exact fin_T q hh ⟨a, vs, rfl, by rw [List.append_nil]; exact eK ▸ s1, by rw [List.append_nil]; exact t1⟩
        · exact fin_tup q hh hp (t1.append t2)
    · cases e
  · split at e
    · rename_i a b e1 e2
      split at e
      · rename_i hc
        cases e
        obtain ⟨p, vs, rfl, z1, t1⟩ := lstM_read h1 hh e1
        obtain ⟨p', ws, rfl, z2, t2⟩ := lstM_read h2 hh e2
        refine op_cat pins s σ H _ _ v u Q I rx ry ⟨p, p', vs, ws, rfl, rfl, z1, z2, ?_, fun n hn => ?_⟩
        · rw [t1.length, t2.length]; exact sizeOk_le hc
        · exact fin_tl q hh hn (t1.append t2)
      · cases e
    · cases e
  · split at e
    · rename_i a e1
      split at e
      · rename_i hc
        cases e
        obtain ⟨hc1, hc2⟩ := Bool.and_eq_true_iff.mp hc
        obtain ⟨b1, b2⟩ := of_decide_eq_true hc1
        obtain ⟨p, vs, rfl, z1, t1⟩ := lstM_read h1 hh e1
        obtain rfl := h2
        refine op_rep pins s σ H _ _ v u Q I rx ry ⟨p, _, vs, rfl, rfl, z1, by omega, by omega, ?_, fun n hn => ?_⟩
        · rw [t1.length]; exact sizeOk_le hc2
        · exact fin_tl q hh hn (t1.rep _)
      · cases e
    · cases e
  · cases e
/-! ### data as a whole -/
mutual
theorem datT_ok {r : List Addr} {H : Hp} : ∀ (t : T) (v : V) (d : PyData), RepT c r H t v → datT t = some d → Dp c.K H v d
  | .non, v, d, h, e => by obtain rfl := h; cases e; exact .non
  | .bl b, v, d, h, e => by obtain rfl := h; cases e; exact .bl b
  | .int b, v, d, h, e => by obtain rfl := h; cases e; exact .int b
  | .str b, v, d, h, e => by obtain ⟨rfl, _⟩ := h; cases e; exact .str _
  | .tup xs, v, d, h, e => by
    obtain ⟨a, vs, rfl, s1, t1⟩ := h
    simp only [datT] at e
    cases q : datTs xs with
    | none => rw [q] at e; cases e
    | some ds =>
      rw [q] at e
      cases e
      exact .tup s1.sq (datTs_ok xs vs ds t1 q)
  | .ref n, v, d, h, e => by cases e
  | .fn n, v, d, h, e => by cases e
  | .fl xs, v, d, h, e => by
    obtain ⟨a, vs, rfl, s1, t1⟩ := h
    simp only [datT] at e
    cases q : datTs xs with
    | none => rw [q] at e; cases e
    | some ds =>
      rw [q] at e
      cases e
      exact .lst s1.sq (datTs_ok xs vs ds t1 q)
theorem datTs_ok {r : List Addr} {H : Hp} : ∀ (ts : List T) (vs : List V) (ds : List PyData), RepTs c r H ts vs → datTs ts = some ds → DpAll c.K H vs ds
  | [], vs, ds, h, e => by obtain rfl := h; cases e; exact .nil
  | t :: ts, vs, ds, h, e => by
    obtain ⟨v, ws, rfl, h1, h2⟩ := h
    simp only [datTs] at e
    split at e
    · rename_i d ds' e1 e2
      cases e
      exact .cons (datT_ok t v d h1 e1) (datTs_ok ts ws ds' h2 e2)
    · cases e
end
theorem dat1_ok {r : List Addr} {H : Hp} {h : LH} (hh : HRel c r h H) {t : T} {v : V} {d : PyData} (z : RepT c r H t v) (e : dat1 h t = some d) : Dp c.K H v d := by
  cases t with
  | ref n =>
    obtain ⟨a, h1, rfl⟩ := z
    simp only [dat1] at e
    cases q : h[n]? with
    | none => rw [q] at e; cases e
    | some o =>
      rw [q] at e
      have w := hh.ob n a o h1 q
      cases o with
      | lst xs =>
        obtain ⟨vs, w1, w2⟩ := w
        replace e : Option.map PyData.list (datTs xs) = some d := e
        cases q2 : datTs xs with
        | none => rw [q2] at e; cases e
        | some ds =>
          rw [q2] at e
          cases e
          exact .lst (.inl (.inl w1)) (datTs_ok xs vs ds w2 q2)
      | dct k kvs => cases e
  | _ => exact datT_ok _ v d z e
theorem dat1s_ok {r : List Addr} {H : Hp} {h : LH} (hh : HRel c r h H) : ∀ (ts : List T) (vs : List V) (ds : List PyData), RepTs c r H ts vs → dat1s h ts = some ds → DpAll c.K H vs ds
  | [], vs, ds, z, e => by obtain rfl := z; cases e; exact .nil
  | t :: ts, vs, ds, z, e => by
    obtain ⟨v, ws, rfl, h1, h2⟩ := z
    simp only [dat1s] at e
    split at e
    · rename_i d ds' e1 e2
      cases e
      exact .cons (dat1_ok hh h1 e1) (dat1s_ok hh ts ws ds' h2 e2)
    · cases e
theorem datD_ok {r : List Addr} {H : Hp} {h : LH} (hh : HRel c r h H) {x : D} {v : V} {d : PyData} (z : RepD c r H x v) (e : datD h x = some d) : Dp c.K H v d := by
  have lists : ∀ (xs : List T) (a : Addr) (vs : List V), H a = some (.lst vs) → RepTs c r H xs vs → (dat1s h xs).map PyData.list = some d → Dp c.K H (.ref a) d := fun xs a vs z1 z2 e => by
    cases q : dat1s h xs with
    | none => rw [q] at e; cases e
    | some ds =>
      rw [q] at e
      cases e
      exact .lst (.inl (.inl z1)) (dat1s_ok hh xs vs ds z2 q)
  cases x with
  | tl xs =>
    obtain ⟨a, vs, rfl, z1, z2, _⟩ := z
    exact lists xs a vs z1 z2 e
  | vw xs =>
    obtain ⟨a, vs, rfl, z1, z2, _⟩ := z
    exact lists xs a vs z1 z2 e
  | dt k kvs => cases e
  | dv k kvs => cases e
  | s t =>
    cases t with
    | ref n =>
      obtain ⟨a, h1, rfl⟩ := z
      simp only [datD] at e
      cases q : h[n]? with
      | none => rw [q] at e; cases e
      | some o =>
        rw [q] at e
        have w := hh.ob n a o h1 q
        cases o with
        | lst xs =>
          obtain ⟨vs, w1, w2⟩ := w
          exact lists xs a vs w1 w2 e
        | dct k kvs => cases e
    | tup xs =>
      obtain ⟨a, vs, rfl, s1, t1⟩ := z
      simp only [datD] at e
      cases q : dat1s h xs with
      | none => rw [q] at e; cases e
      | some ds =>
        rw [q] at e
        cases e
        exact .tup s1.sq (dat1s_ok hh xs vs ds t1 q)
    | _ => exact datT_ok _ v d z e
/-! ### comparisons -/
def copOf : Cop → CmpOp
  | .eq => .Eq | .ne => .NotEq | .lt => .Lt | .le => .LtE | .gt => .Gt | .ge => .GtE | .is => .Is | .isn => .IsNot | .inn => .In | .nin => .NotIn
def rCmp (c : Tx) (op : Cop) : R2 := fun x y H Q => ∃ d1 d2 h r, RepD c r H d1 x ∧ RepD c r H d2 y ∧ HRel c r h H ∧ Out c (rB) r H (toR (cmpD op d1 d2 h) h) (fun b H' => Q (.bl b) H')
theorem fin_B {r : List Addr} {H : Hp} {h : LH} {b : Bool} {Q : VK} (q : ∀ b' r' H', rB H r' H' b b' → HRel c r' h H' → Ext c r H r' H' → Q (.bl b') H') (hh : HRel c r h H) : Q (.bl b) H := q b r H rfl hh Ext.refl
theorem flat_V {r : List Addr} {H : Hp} : ∀ {t : T} {v : V}, RepT c r H t v → flatT t = true → flatV v = true := fun {t v} z f => by
  cases t with
  | non => obtain rfl := z; rfl
  | bl b => obtain rfl := z; rfl
  | int b => obtain rfl := z; rfl
  | str b => obtain ⟨rfl, _⟩ := z; rfl
  | _ => cases f
theorem str_eq (a b : List Nat) : ((⟨a.toArray⟩ : Str) == ⟨b.toArray⟩) = (a == b) := by
  by_cases e : a = b
  · subst e; simp
  · rw [beq_eq_false_iff_ne.mpr e]
    refine beq_eq_false_iff_ne.mpr fun z => e ?_
    have := congrArg (fun s : Str => s.cps.toList) z
    simpa using this
theorem eq_F {r : List Addr} {H : Hp} {t u : T} {v w : V} (z : RepT c r H t v) (z' : RepT c r H u w) (f : flatT t = true) (f' : flatT u = true) : eqV v w = eqF t u := by
  cases t <;> first | (cases f; done) | skip
  all_goals cases u <;> first | (cases f'; done) | skip
  all_goals first
    | (obtain ⟨rfl, _⟩ := z; obtain ⟨rfl, _⟩ := z'; first | exact str_eq _ _ | rfl)
    | (obtain ⟨rfl, _⟩ := z; obtain rfl := z'; rfl)
    | (obtain rfl := z; obtain ⟨rfl, _⟩ := z'; rfl)
    | (obtain rfl := z; obtain rfl := z'; rfl)
theorem in_V {r : List Addr} {H : Hp} {u : T} {w : V} (z' : RepT c r H u w) (f' : flatT u = true) : ∀ {ts : List T} {vs : List V}, RepTs c r H ts vs → ts.all flatT = true → vs.all flatV = true ∧ inV w vs = ts.any fun t => eqF t u
  | [], vs, h, _ => by obtain rfl := h; exact ⟨rfl, rfl⟩
  | t :: ts, vs, h, f => by
    obtain ⟨v, ws, rfl, h1, h2⟩ := h
    rw [List.all_cons, Bool.and_eq_true] at f
    obtain ⟨i1, i2⟩ := in_V z' f' h2 f.2
    refine ⟨by rw [List.all_cons, flat_V h1 f.1, i1]; rfl, ?_⟩
    show (eqV v w || inV w ws) = _
    rw [List.any_cons, eq_F h1 z' f.1 f', i2]
theorem seq_read {r : List Addr} {H : Hp} {h : LH} {d : D} {v : V} {xs : List T} (hd : RepD c r H d v) (hh : HRel c r h H) (e : seqOf d h = some xs) : ∃ a vs, v = .ref a ∧ (SqL c.K H a vs ∨ SqT c.K H a vs) ∧ RepTs c r H xs vs := by
  cases d with
  | s t =>
    cases t with
    | tup ys =>
      cases e
      obtain ⟨a, vs, rfl, s1, t1⟩ := hd
      exact ⟨a, vs, rfl, .inr s1.sq, t1⟩
    | _ =>
      obtain ⟨a, vs, e1, s1, t1⟩ := lst_read hd hh e
      exact ⟨a, vs, e1, .inl s1, t1⟩
  | _ =>
    obtain ⟨a, vs, e1, s1, t1⟩ := lst_read hd hh e
    exact ⟨a, vs, e1, .inl s1, t1⟩
theorem dct_read {r : List Addr} {H : Hp} {h : LH} {d : D} {v : V} {k : Bool} {kvs : List (T × T)} (hd : RepD c r H d v) (hh : HRel c r h H) (e : dctOf d h = some (k, kvs)) : ∃ a, v = .ref a ∧ RepDc c r H k kvs a := by
  cases d with
  | dt k' ys => cases e; obtain ⟨a, rfl, z, _⟩ := hd; exact ⟨a, rfl, z⟩
  | dv k' ys => cases e; obtain ⟨a, rfl, z, _⟩ := hd; exact ⟨a, rfl, z⟩
  | tl xs => cases e
  | vw xs => cases e
  | s t =>
    cases t with
    | ref n =>
      obtain ⟨a, h1, rfl⟩ := hd
      simp only [dctOf] at e
      cases q : h[n]? with
      | none => rw [q] at e; cases e
      | some o =>
        rw [q] at e
        have w := hh.ob n a o h1 q
        cases o with
        | lst xs => cases e
        | dct k kvs => cases e; exact ⟨a, rfl, w⟩
    | _ => cases e
/-- the key of a value -/
theorem key_of {r : List Addr} {H : Hp} {t : T} {v : V} (z : RepT c r H t v) (k : keyB t = true) : ∃ q : Key, v = kV q ∧ keyT q = t := by
  cases t with
  | int i => exact ⟨.inl i, z, rfl⟩
  | str s => obtain ⟨rfl, _⟩ := z; exact ⟨.inr ⟨s.toArray⟩, rfl, rfl⟩
  | _ => cases k
theorem keyT_inj {a b : Key} (h : keyT a = keyT b) : a = b := by
  cases a with
  | inl i =>
    cases b with
    | inl j => injection h with h; rw [h]
    | inr y => cases h
  | inr x =>
    cases b with
    | inl j => cases h
    | inr y =>
      injection h with h
      obtain ⟨⟨x⟩⟩ := x
      obtain ⟨⟨y⟩⟩ := y
      simp at h
      rw [h]
theorem keyT_of {r : List Addr} {H : Hp} {t : T} {k : Key} (z : RepT c r H t (kV k)) (b : keyB t = true) : keyT k = t := by
  obtain ⟨q, e, e'⟩ := key_of z b
  rw [← e']
  congr 1
  cases k <;> cases q <;> first | (injection e with e; rw [e]) | cases e
theorem look_V {r : List Addr} {H : Hp} {q : Key} : ∀ {kvs : List (T × T)} {kv : List (Key × V)}, RepK c r H kvs kv → (match lookT (keyT q) kvs with | some t => ∃ v, valV kv q = some v ∧ RepT c r H t v | none => valV kv q = none)
  | [], kv, h => by obtain rfl := h; rfl
  | p :: ps, kv, h => by
    obtain ⟨k, v, ws, rfl, h0, h1, h2, h3⟩ := h
    have ek := keyT_of h1 h0
    obtain ⟨p1, p2⟩ := p
    simp only at ek h2
    unfold lookT
    by_cases e : p1 = keyT q
    · rw [if_pos e]
      have : k = q := keyT_inj (ek.trans e)
      subst this
      refine ⟨v, ?_, h2⟩
      unfold valV
      rw [List.find?_cons_of_pos (by simp)]
      rfl
    · rw [if_neg e]
      have hn : k ≠ q := fun z => e (by rw [← ek, z])
      have ih := look_V (q := q) h3
      have ev : valV ((k, v) :: ws) q = valV ws q := by
        unfold valV
        rw [List.find?_cons_of_neg (by simpa using hn)]
      rw [ev]
      exact ih
theorem keyOk_f' {t : T} (h : keyOk false t = true) : keyB t = true := by
  cases t <;> first | exact h | (simp [keyOk] at h)
theorem keyOk_t {t : T} (h : keyOk true t = true) : ∃ xs, t = .tup xs ∧ xs.all keyB = true ∧ mixB xs = true := by
  cases t with
  | tup xs =>
    simp only [keyOk, Bool.true_and, Bool.and_eq_true] at h
    exact ⟨xs, rfl, h.1, h.2⟩
  | _ => simp [keyOk] at h
theorem keys_of {r : List Addr} {H : Hp} : ∀ {xs : List T} {vs : List V}, RepTs c r H xs vs → xs.all keyB = true → ∃ k : List Key, vs = k.map kV ∧ k.map keyT = xs
  | [], vs, h, _ => ⟨[], h, rfl⟩
  | x :: xs, vs, h, a => by
    obtain ⟨v, ws, rfl, h1, h2⟩ := h
    rw [List.all_cons, Bool.and_eq_true] at a
    obtain ⟨q, e1, e2⟩ := key_of h1 a.1
    obtain ⟨k, e3, e4⟩ := keys_of h2 a.2
    exact ⟨q :: k, by rw [e1, e3]; rfl, by rw [List.map_cons, e2, e4]⟩
/-- a tuple that is a key stands in the heap -/
theorem tkey_of {r : List Addr} {H : Hp} {t : T} {v : V} (z : RepT c r H t v) (k : keyOk true t = true) : ∃ (b : Addr) (q : List Key), v = .ref b ∧ H b = some (.tup (q.map kV)) ∧ t = .tup (q.map keyT) ∧ ∀ x ∈ q, RepT c r H (keyT x) (kV x) := by
  obtain ⟨xs, rfl, a, m⟩ := keyOk_t k
  obtain ⟨b, vs, rfl, s1, t1⟩ := z
  obtain ⟨q, e1, e2⟩ := keys_of t1 a
  have h1 := s1.2 m
  rw [e1] at h1 t1
  refine ⟨b, q, rfl, h1, by rw [e2], ?_⟩
  rw [← e2] at t1
  clear h1 e1 e2 a m s1
  induction q with
  | nil => intro x hx; cases hx
  | cons y q ih =>
    obtain ⟨v, ws, e, w1, w2⟩ := t1
    rw [List.map_cons] at e
    injection e with e3 e4
    subst e3 e4
    intro x hx
    rcases List.mem_cons.mp hx with rfl | hx
    · exact w1
    · exact ih w2 x hx
theorem mapT_inj : ∀ {a b : List Key}, a.map keyT = b.map keyT → a = b
  | [], [], _ => rfl
  | [], _ :: _, h => by cases h
  | _ :: _, [], h => by cases h
  | x :: a, y :: b, h => by
    rw [List.map_cons, List.map_cons] at h
    injection h with h1 h2
    rw [keyT_inj h1, mapT_inj h2]
theorem look_VT {r : List Addr} {H : Hp} {q : List Key} : ∀ {kvs : List (T × T)} {kv : List (List Key × V)}, RepKT c r H kvs kv → (match lookT (.tup (q.map keyT)) kvs with | some t => ∃ v, valV kv q = some v ∧ RepT c r H t v | none => valV kv q = none)
  | [], kv, h => by obtain rfl := h; rfl
  | p :: ps, kv, h => by
    obtain ⟨k, v, ws, rfl, h0, h1, h2, h3⟩ := h
    obtain ⟨p1, p2⟩ := p
    simp only at h0 h2
    subst h0
    unfold lookT
    by_cases e : T.tup (k.map keyT) = .tup (q.map keyT)
    · rw [if_pos e]
      have : k = q := mapT_inj (by injection e)
      subst this
      refine ⟨v, ?_, h2⟩
      unfold valV
      rw [List.find?_cons_of_pos (by simp)]
      rfl
    · rw [if_neg e]
      have hn : k ≠ q := fun z => e (by rw [z])
      have ih := look_VT (q := q) h3
      have ev : valV ((k, v) :: ws) q = valV ws q := by
        unfold valV
        rw [List.find?_cons_of_neg (by simpa using hn)]
      rw [ev]
      exact ih
/-- what a dict tells of a key, of either kind -/
theorem dget_of {r : List Addr} {H : Hp} {k : Bool} {kvs : List (T × T)} {a : Addr} {t : T} {x : V} (z : RepDc c r H k kvs a) (zx : RepT c r H t x) (hk : keyOk k t = true) :
    ∃ o : Option V, DGet H a x o ∧ (match lookT t kvs with | some u => ∃ v, o = some v ∧ RepT c r H u v | none => o = none) := by
  cases k with
  | true =>
    obtain ⟨kv, z1, z2⟩ := z
    obtain ⟨b, q, rfl, hb, rfl, _⟩ := tkey_of zx hk
    exact ⟨_, DGet.t z1 hb, look_VT z2⟩
  | false =>
    obtain ⟨kv, z1, z2⟩ := z
    obtain ⟨q, rfl, rfl⟩ := key_of zx (keyOk_f' hk)
    exact ⟨_, DGet.k z1, look_V z2⟩
theorem keyOk_f {t : T} (h : keyOk false t = true) : keyB t = true := by
  cases t <;> first | exact h | (simp [keyOk] at h)
theorem in_ok (eK : X.K = c.K) (hu : X.A.units + 65 < cLine) (neg : Bool) {pins : List (Addr × Obj)} {s : Shared} {σ : L2.St} {H : Hp} {x y : V} {v u : Value} {d1 d2 : D} {h : LH} {r : List Addr} {b : Bool} {Q : VK} (I : Inv X pins σ H s) (rx : RelV x v) (ry : RelV y u)
    (h1 : RepD c r H d1 x) (h2 : RepD c r H d2 y) (hh : HRel c r h H) (e : inD d1 d2 h = some b) (q : Q (.bl (if neg then !b else b)) H) : wpAny (model X.prog X.w) X.A (compareOp (if neg then .NotIn else .In) v u) (EP X pins σ Q) X.xe s := by
  unfold inD at e
  split at e
  · rename_i a b'
    obtain ⟨rfl, _⟩ := h1; obtain ⟨rfl, _⟩ := h2
    have el : (⟨b'.toArray⟩ : Str).length = b'.length := by show b'.toArray.size = _; simp
    cases neg with
    | true =>
      refine op_notIn_str pins s σ H _ _ v u Q I rx ry ⟨_, _, rfl, rfl, ?_⟩
      rw [el]; cases e; exact q
    | false =>
      refine op_in_str pins s σ H _ _ v u Q I rx ry ⟨_, _, rfl, rfl, ?_⟩
      rw [el]; cases e; exact q
  · rename_i t hne
    split at e
    · rename_i k kvs e1
      split at e
      · rename_i hk
        obtain ⟨a, rfl, z⟩ := dct_read h2 hh e1
        obtain ⟨o, g, lk⟩ := dget_of z (show RepT c r H t x from h1) hk
        cases (show u = Value.ref a from ry)
        have eb : o.isSome = b := by
          cases e2 : lookT t kvs with
          | none => rw [e2] at lk e; rw [show o = none from lk]; cases e; rfl
          | some w => rw [e2] at lk e; obtain ⟨w', l1, _⟩ := lk; rw [l1]; cases e; rfl
        cases neg with
        | true =>
          refine d_notIn (by omega) I g rx fun s3 I3 => ⟨.bl _, H, I3, rfl, ?_⟩
          rw [eb]; exact q
        | false =>
          refine d_in (by omega) I g rx fun s3 I3 => ⟨.bl _, H, I3, rfl, ?_⟩
          rw [eb]; exact q
      · cases e
    · split at e
      · rename_i xs e1
        split at e
        · rename_i hf
          obtain ⟨f1, f2⟩ := Bool.and_eq_true_iff.mp hf
          obtain ⟨a, vs, rfl, s1, t1⟩ := seq_read h2 hh e1
          obtain ⟨i1, i2⟩ := in_V (show RepT c r H t x from h1) f1 t1 f2
          cases e
          rw [← eK] at s1
          cases neg with
          | true =>
            refine op_notIn_seq pins s σ H _ _ v u Q I rx ry ⟨a, vs, rfl, s1, flat_V h1 f1, i1, ?_⟩
            rw [i2]; exact q
          | false =>
            refine op_in_seq pins s σ H _ _ v u Q I rx ry ⟨a, vs, rfl, s1, flat_V h1 f1, i1, ?_⟩
            rw [i2]; exact q
        · unfold inN at e
          split at e
          · rename_i dd ds q1 q2
            split at e
            · rename_i hs
              obtain ⟨g1, g2⟩ := Bool.and_eq_true_iff.mp hs
              cases e
              have p1 := datD_ok hh h1 q1
              have p2 := datD_ok hh h2 q2
              rw [← eK] at p1 p2
              cases neg with
              | true => exact op_notInD hu pins s σ H _ _ v u Q I rx ry ⟨dd, ds, p1, p2, g1, g2, q⟩
              | false => exact op_inD hu pins s σ H _ _ v u Q I rx ry ⟨dd, ds, p1, p2, g1, g2, q⟩
            · cases e
          · cases e
      · cases e
  · cases e
theorem nil_len {r : List Addr} {H : Hp} {vs : List V} (h : RepTs c r H [] vs) : vs = [] := h
theorem eqN_read {r : List Addr} {H : Hp} {h : LH} {d1 d2 : D} {x y : V} {b : Bool} (h1 : RepD c r H d1 x) (h2 : RepD c r H d2 y) (hh : HRel c r h H) (e : eqN d1 d2 h = some b) :
    ∃ d e, Dp c.K H x d ∧ Dp c.K H y e ∧ SeqAt.shaped d = true ∧ SeqAt.shaped e = true ∧ PyData.eqv d e = b := by
  unfold eqN at e
  split at e
  · rename_i d e' q1 q2
    split at e
    · rename_i hs
      obtain ⟨s1, s2⟩ := Bool.and_eq_true_iff.mp hs
      cases e
      exact ⟨d, e', datD_ok hh h1 q1, datD_ok hh h2 q2, s1, s2, rfl⟩
    · cases e
  · cases e
theorem eqS_ok {r : List Addr} {H : Hp} {x y : V} {d1 d2 : D} {b : Bool} (h1 : RepD c r H d1 x) (h2 : RepD c r H d2 y) (e : eqS d1 d2 = some b) : scal x y = true ∧ decide (x = y) = b := by
  unfold eqS at e
  split at e
  · rename_i a a'
    cases e
    obtain ⟨rfl, _⟩ := (show x = .str ⟨a.toArray⟩ ∧ _ from h1)
    obtain ⟨rfl, _⟩ := (show y = .str ⟨a'.toArray⟩ ∧ _ from h2)
    refine ⟨rfl, ?_⟩
    by_cases h : a = a'
    · subst h; simp
    · have : ¬ (V.str ⟨a.toArray⟩ = V.str ⟨a'.toArray⟩) := fun e => h (by
        injection e with e
        simpa using congrArg (fun s : Str => s.cps.toList) e)
      simp only [h, this, decide_false]
  · rename_i a a'
    cases e
    obtain rfl : x = .int a := h1
    obtain rfl : y = .int a' := h2
    refine ⟨rfl, ?_⟩
    by_cases h : a = a'
    · subst h; simp
    · have : ¬ (V.int a = V.int a') := fun e => h (by injection e)
      simp only [h, this, decide_false]
  · cases e
theorem eq_ok (eK : X.K = c.K) (hu : X.A.units + 64 < cLine) {pins : List (Addr × Obj)} {s : Shared} {σ : L2.St} {H : Hp} {x y : V} {v u : Value} {d1 d2 : D} {h : LH} {r : List Addr} {b : Bool} {Q : VK} (I : Inv X pins σ H s) (rx : RelV x v) (ry : RelV y u)
    (h1 : RepD c r H d1 x) (h2 : RepD c r H d2 y) (hh : HRel c r h H) (e : eqD d1 d2 h = some b) (q : Q (.bl b) H) : wpAny (model X.prog X.w) X.A (compareOp .Eq v u) (EP X pins σ Q) X.xe s := by
  have data : eqN d1 d2 h = some b → wpAny (model X.prog X.w) X.A (compareOp .Eq v u) (EP X pins σ Q) X.xe s := fun e => by
    obtain ⟨d, e', p1, p2, s1, s2, rfl⟩ := eqN_read h1 h2 hh e
    rw [← eK] at p1 p2
    exact op_eqD hu pins s σ H x y v u Q I rx ry ⟨d, e', p1, p2, s1, s2, q⟩
  have tups : ∀ (xs ys : List T), d1 = .s (.tup xs) → d2 = .s (.tup ys) → (xs = [] ∨ ys = []) → b = (xs.isEmpty && ys.isEmpty) → wpAny (model X.prog X.w) X.A (compareOp .Eq v u) (EP X pins σ Q) X.xe s := fun xs ys e1 e2 hn eb => by
    subst e1 e2
    obtain ⟨a, vs, rfl, s1, t1⟩ := h1
    obtain ⟨a', ws, rfl, s2, t2⟩ := h2
    rw [← eK] at s1 s2
    obtain ⟨its, r1, p1, _⟩ := I.tuple s1.sq
    obtain ⟨its2, r2, p2, _⟩ := I.tuple s2.sq
    cases (show v = Value.ref a from rx)
    cases (show u = Value.ref a' from ry)
    have l1 : its.length = xs.length := by rw [← r1.length, t1.length]
    have l2 : its2.length = ys.length := by rw [← r2.length, t2.length]
    refine SeqAt.eq_tupleAt (e := fun _ => true) p1 p2 (by omega) (fun j j1 j2 => ?_) ⟨.bl _, H, I, rfl, ?_⟩
    · exfalso
      simp only [List.size_toArray] at j1 j2
      rcases hn with z | z
      · rw [l1, z] at j1; exact absurd j1 (Nat.not_lt_zero _)
      · rw [l2, z] at j2; exact absurd j2 (Nat.not_lt_zero _)
    · have : ((List.range (min its.toArray.size its2.toArray.size)).all (fun _ => true) && its.toArray.size == its2.toArray.size) = b := by
        rw [eb]
        simp only [List.size_toArray, l1, l2]
        rcases hn with z | z
        · subst z
          cases ys <;> simp
        · subst z
          cases xs <;> simp
      rw [this]
      exact q
  unfold eqD at e
  cases qs : eqS d1 d2 with
  | some b' =>
    rw [qs] at e
    cases e
    obtain ⟨z1, z2⟩ := eqS_ok h1 h2 qs
    exact op_eq pins s σ H x y v u Q I rx ry ⟨z1, by rw [z2]; exact q⟩
  | none =>
  rw [qs] at e
  simp only at e
  unfold eqL at e
  split at e
  · cases e; exact tups _ _ rfl rfl (.inl rfl) (by simp)
  · cases e; exact tups _ _ rfl rfl (.inr rfl) (by simp)
  · split at e
    · rename_i a b' e1 e2
      split at e
      · exact data e
      · rename_i hl
        cases e
        obtain ⟨p, vs, rfl, s1, t1⟩ := lst_read h1 hh e1
        obtain ⟨p', ws, rfl, s2, t2⟩ := lst_read h2 hh e2
        rw [← eK] at s1 s2
        obtain ⟨its, r1, p1, _⟩ := I.list s1
        obtain ⟨its2, r2, p2, _⟩ := I.list s2
        cases (show v = Value.ref p from rx)
        cases (show u = Value.ref p' from ry)
        have l1 : its.length = a.length := by rw [← r1.length, t1.length]
        have l2 : its2.length = b'.length := by rw [← r2.length, t2.length]
        refine SeqAt.eq_list_lengthsAt p1.isList p2.isList ?_ (by omega) ⟨.bl false, H, I, rfl, q⟩
        simpa [l1, l2] using hl
    · exact data e
theorem op_ne_dict (hu : X.A.units < cLine) : OpR X (compareOp .NotEq) (fun x y H Q => ∃ a b kvs, x = .ref a ∧ y = .ref b ∧ H a = some (.dK kvs) ∧ H b = some (.dK kvs) ∧ (kvs.map (·.1)).Nodup ∧ (∀ p ∈ kvs, flatB p.2 = true) ∧ Q (.bl false) H) := by
  intro pins s σ H x y v u Q I rx ry h
  obtain ⟨a, b, kvs, rfl, rfl, ea, eb, nd, fl, q⟩ := h
  obtain rfl : v = Value.ref a := rx
  obtain rfl : u = Value.ref b := ry
  obtain ⟨_, ya, va, ra, da⟩ := (show ObjOk X.prog X.w H s.heap a (.dK kvs) from I.hok a _ ea)
  obtain ⟨_, yb, vb, rb, db⟩ := (show ObjOk X.prog X.w H s.heap b (.dK kvs) from I.hok b _ eb)
  have hl : va.length = vb.length := ra.length.symm.trans rb.length
  exact PySem.W.keq_ne (knd := mixKind X.prog X.w) (r := true) ya yb da db hu (fun _ => hits_all rb ra fun p hp => ⟨val_nodup nd p hp, fl p hp⟩) (fin_bl I q (by simp [hl]))
theorem nd_of_map {α β : Type} {f : α → β} {l : List α} (h : (l.map f).Nodup) : l.Nodup := by
  rw [List.Nodup, List.pairwise_map] at h
  exact List.Pairwise.imp (fun {a b} ne e => ne (by rw [e])) h
theorem RepK.same {r : List Addr} {H : Hp} : ∀ {kvs : List (T × T)} {kv kv' : List (Key × V)}, kvs.all (fun p => flatT p.2) = true → RepK c r H kvs kv → RepK c r H kvs kv' → kv = kv' ∧ (∀ p ∈ kv, flatB p.2 = true) ∧ kvs.map Prod.fst = (kv.map (·.1)).map keyT
  | [], kv, kv', _, z, z' => by
    rw [show kv = [] from z, show kv' = [] from z']
    exact ⟨rfl, (fun _ h => nomatch h), rfl⟩
  | (p1, p2) :: ps, kv, kv', hf, z, z' => by
    rw [List.all_cons, Bool.and_eq_true] at hf
    obtain ⟨k, v, ws, rfl, hk, h1, h2, h3⟩ := z
    obtain ⟨k', v', ws', rfl, _, h1', h2', h3'⟩ := z'
    obtain ⟨e, fb, em⟩ := RepK.same hf.2 h3 h3'
    subst e
    have key : ∀ {q : Key}, RepT c r H p1 (kV q) → p1 = keyT q := fun {q} h => by
      cases p1 with
      | int i =>
        have h : kV q = .int i := h
        cases q with
        | inl j => simp only [kV] at h; injection h with h; rw [h]; rfl
        | inr x => cases h
      | str s =>
        have h : kV q = .str ⟨s.toArray⟩ := h.1
        cases q with
        | inl j => cases h
        | inr x => simp only [kV] at h; injection h with h; rw [h]; simp [keyT]
      | _ => cases hk
    have kk : k = k' := by
      have := (key h1).symm.trans (key h1')
      cases k with
      | inl i =>
        cases k' with
        | inl j => simp only [keyT] at this; injection this with this; rw [this]
        | inr y => cases this
      | inr x =>
        cases k' with
        | inl j => cases this
        | inr y =>
          simp only [keyT] at this
          injection this with this
          have : x = y := by
            cases x; cases y
            simp only at this
            rw [Array.toList_inj.mp this]
          rw [this]
    have vv : v = v' ∧ flatB v = true := by
      have f := hf.1
      cases p2 with
      | non => exact ⟨h2.trans h2'.symm, by rw [show v = .non from h2]; rfl⟩
      | bl b => exact ⟨h2.trans h2'.symm, by rw [show v = .bl b from h2]; rfl⟩
      | int b => exact ⟨h2.trans h2'.symm, by rw [show v = .int b from h2]; rfl⟩
      | str b => exact ⟨h2.1.trans h2'.1.symm, by rw [h2.1]; rfl⟩
      | _ => cases f
    refine ⟨by rw [kk, vv.1], fun p hp => ?_, by rw [List.map_cons, em, key h1]; rfl⟩
    rcases List.mem_cons.mp hp with rfl | hp
    · exact vv.2
    · exact fb p hp
theorem cmp_ok (eK : X.K = c.K) (hu : X.A.units + 65 < cLine) (op : Cop) : OpR X (compareOp (copOf op)) (rCmp c op) := by
  intro pins s σ H x y v u Q I rx ry hq
  obtain ⟨d1, d2, h, r, h1, h2, hh, z⟩ := hq
  obtain ⟨b, e, q⟩ := z.some
  have qq : Q (.bl b) H := fin_B q hh
  have intsC : ∀ (f : Int → Int → Bool) (co : CmpOp), OpR X (compareOp co) (rI0 fun i j => .bl (f i j)) → cmpI f d1 d2 = some b → wpAny (model X.prog X.w) X.A (compareOp co v u) (EP X pins σ Q) X.xe s := fun f co ho e => by
    clear z
    unfold cmpI at e
    split at e
    · rename_i h1 h2 _
      obtain rfl := h1; obtain rfl := h2; cases e
      exact ho pins s σ H _ _ v u Q I rx ry ⟨_, _, rfl, rfl, qq⟩
    · cases e
  cases op with
  | eq => exact eq_ok eK (by omega) I rx ry h1 h2 hh e qq
  | ne =>
    simp only [cmpD] at e
    unfold neD at e
    split at e
    · rename_i k a k' b' e1 e2
      split at e
      · rename_i hk
        cases e
        obtain ⟨hk1, hs⟩ := Bool.and_eq_true_iff.mp hk
        obtain ⟨k1, k2⟩ := Bool.and_eq_true_iff.mp hk1
        have k1 : k = false := by cases k <;> first | rfl | cases k1
        have k2 : k' = false := by cases k' <;> first | rfl | cases k2
        subst k1 k2
        unfold sameKV at hs
        obtain ⟨hs1, hn⟩ := Bool.and_eq_true_iff.mp hs
        obtain ⟨he, hf⟩ := Bool.and_eq_true_iff.mp hs1
        have he := of_decide_eq_true he
        have hn := of_decide_eq_true hn
        subst he
        obtain ⟨p, rfl, kv, z1, z2⟩ := dct_read h1 hh e1
        obtain ⟨p', rfl, kv', z3, z4⟩ := dct_read h2 hh e2
        obtain ⟨ek, fb, en⟩ := RepK.same hf z2 z4
        subst ek
        rw [en] at hn
        exact op_ne_dict (by omega) pins s σ H _ _ v u Q I rx ry ⟨p, p', kv, rfl, rfl, z1, z3, nd_of_map hn, fb, qq⟩
      · cases e
    · rename_i hno
      clear hno
      cases qs : eqS d1 d2 with
      | some b' =>
        rw [qs] at e
        cases e
        obtain ⟨z1, z2⟩ := eqS_ok h1 h2 qs
        exact op_ne pins s σ H x y v u Q I rx ry ⟨z1, by rw [z2]; exact qq⟩
      | none =>
      rw [qs] at e
      simp only at e
      cases e' : eqN d1 d2 h with
      | none => rw [e'] at e; cases e
      | some b' =>
        rw [e'] at e
        cases e
        obtain ⟨d, e2, p1, p2, s1, s2, rfl⟩ := eqN_read h1 h2 hh e'
        rw [← eK] at p1 p2
        exact op_neD (by omega) pins s σ H x y v u Q I rx ry ⟨d, e2, p1, p2, s1, s2, qq⟩
  | lt => exact intsC _ _ op_lt e
  | le => exact intsC _ _ op_le e
  | gt => exact intsC _ _ op_gt e
  | ge => exact intsC _ _ op_ge e
  | is =>
    simp only [cmpD] at e
    split at e
    · obtain rfl := h2
      cases e
      refine op_isN pins s σ H _ _ v u Q I rx ry ⟨rfl, ?_⟩
      have : decide (x = V.non) = decide (d1 = D.s T.non) := by
        by_cases ed : d1 = D.s T.non
        · subst ed; obtain rfl := h1; rfl
        · rw [decide_eq_false ed]
          refine decide_eq_false fun ex => ed ?_
          subst ex
          cases d1 with
          | s t =>
            cases t with
            | non => rfl
            | str s => obtain ⟨z, _⟩ := h1; cases z
            | bl b => cases (show V.non = _ from h1)
            | int b => cases (show V.non = _ from h1)
            | tup xs => obtain ⟨_, _, z, _⟩ := h1; cases z
            | ref n => obtain ⟨_, _, z⟩ := h1; cases z
            | fn n => obtain ⟨_, z, _⟩ := h1; cases z
            | fl xs => obtain ⟨_, _, z, _⟩ := h1; cases z
          | tl xs => obtain ⟨_, _, z, _⟩ := h1; cases z
          | vw xs => obtain ⟨_, _, z, _⟩ := h1; cases z
          | dt k xs => obtain ⟨_, z, _⟩ := h1; cases z
          | dv k xs => obtain ⟨_, z, _⟩ := h1; cases z
      rw [this]; exact qq
    · split at e
      · obtain rfl := h1; obtain rfl := h2
        cases e
        exact op_isBl pins s σ H _ _ v u Q I rx ry ⟨_, _, rfl, rfl, qq⟩
      · cases e
    · cases e
  | isn =>
    simp only [cmpD] at e
    split at e
    · obtain rfl := h2
      cases e
      refine op_notN pins s σ H _ _ v u Q I rx ry ⟨rfl, ?_⟩
      have : decide (x = V.non) = decide (d1 = D.s T.non) := by
        by_cases ed : d1 = D.s T.non
        · subst ed; obtain rfl := h1; rfl
        · rw [decide_eq_false ed]
          refine decide_eq_false fun ex => ed ?_
          subst ex
          cases d1 with
          | s t =>
            cases t with
            | non => rfl
            | str s => obtain ⟨z, _⟩ := h1; cases z
            | bl b => cases (show V.non = _ from h1)
            | int b => cases (show V.non = _ from h1)
            | tup xs => obtain ⟨_, _, z, _⟩ := h1; cases z
            | ref n => obtain ⟨_, _, z⟩ := h1; cases z
            | fn n => obtain ⟨_, z, _⟩ := h1; cases z
            | fl xs => obtain ⟨_, _, z, _⟩ := h1; cases z
          | tl xs => obtain ⟨_, _, z, _⟩ := h1; cases z
          | vw xs => obtain ⟨_, _, z, _⟩ := h1; cases z
          | dt k xs => obtain ⟨_, z, _⟩ := h1; cases z
          | dv k xs => obtain ⟨_, z, _⟩ := h1; cases z
      rw [this]; exact qq
    · split at e
      · obtain rfl := h1; obtain rfl := h2
        cases e
        exact op_notBl pins s σ H _ _ v u Q I rx ry ⟨_, _, rfl, rfl, qq⟩
      · cases e
    · cases e
  | inn => exact in_ok eK hu false I rx ry h1 h2 hh e qq
  | nin =>
    simp only [cmpD] at e
    cases e' : inD d1 d2 h with
    | none => rw [e'] at e; cases e
    | some b' =>
      rw [e'] at e
      cases e
      exact in_ok eK hu true I rx ry h1 h2 hh e' qq
/-! ### subscripts -/
theorem atT_read {r : List Addr} {H : Hp} {ts : List T} {vs : List V} {i : Int} {t : T} (z : RepTs c r H ts vs) (e : atT ts i = some t) : ∃ v, atI vs i = some v ∧ RepT c r H t v := by
  unfold atT at e
  unfold atI at e ⊢
  rw [z.length]
  cases q : ixN ts.length i with
  | none => rw [q] at e; cases e
  | some j =>
    rw [q] at e
    exact z.get e
def rIxD (c : Tx) : R2 := fun x y H Q => ∃ d1 d2 h r, RepD c r H d1 x ∧ RepD c r H d2 y ∧ HRel c r h H ∧ Out c (rD c) r H (toR (ixD d1 d2 h) h) Q
theorem cutT_read {r : List Addr} {H : Hp} {ts : List T} {vs : List V} (lo hi : Option Int) (z : RepTs c r H ts vs) : RepTs c r H (cutT ts lo hi) (cutV vs lo hi) := by
  unfold cutT cutV
  rw [z.length]
  exact (z.drop _).take _
def rSlD (c : Tx) : V → Option Int → Option Int → Hp → VK → Prop := fun x lo hi H Q => ∃ d h r, RepD c r H d x ∧ HRel c r h H ∧ Out c (rD c) r H (toR (slD d lo hi h) h) Q
theorem sl_ok (eK : X.K = c.K) : SlR X (rSlD c) := by
  intro pins s σ H x v vl vu lo hi sl Q I rx hs pl pu hq
  obtain ⟨d, h, r, h1, hh, z⟩ := hq
  obtain ⟨d', e, q⟩ := z.some
  unfold slD at e
  split at e
  · rename_i cs
    obtain ⟨rfl, hl⟩ := h1
    cases e
    have e1 : (⟨cs.toArray⟩ : Str).length = cs.length := by show cs.toArray.size = _; simp
    refine sl_str pins s σ H _ v vl vu lo hi sl Q I rx hs pl pu ⟨_, rfl, by rw [e1]; exact hl, ?_⟩
    have e2 : cutS ⟨cs.toArray⟩ lo hi = ⟨(cutT cs lo hi).toArray⟩ := by
      unfold cutS cutT
      rw [e1]
    rw [e2]
    refine fin_T q hh ⟨rfl, Nat.le_trans ?_ hl⟩
    unfold cutT
    rw [List.length_take, List.length_drop]
    omega
  · rename_i xs
    obtain ⟨a, vs, rfl, s1, t1⟩ := h1
    cases e
    have s1' := s1
    rw [← eK] at s1
    refine sl_tupA pins s σ H _ v vl vu lo hi sl Q I rx hs pl pu ⟨a, vs, rfl, s1.sq, fun hw => ?_, fun hw p hp => ?_⟩
    · have ec : cutT xs lo hi = xs := by
        unfold cutT
        rw [t1.length] at hw
        rw [hw.1, hw.2]
        simp
      exact fin_T q hh ⟨a, vs, rfl, by rw [ec]; exact s1', by rw [ec]; exact t1⟩
    · exact fin_tup q hh hp (cutT_read lo hi t1)
  · cases el : lstOf d h with
    | none => rw [el] at e; cases e
    | some xs =>
      rw [el] at e
      cases e
      obtain ⟨a, vs, rfl, s1, t1⟩ := lst_read h1 hh el
      rw [← eK] at s1
      exact sl_list pins s σ H _ v vl vu lo hi sl Q I rx hs pl pu ⟨a, vs, rfl, s1, fun p hp => fin_tl q hh hp (cutT_read lo hi t1)⟩
theorem ix_ok (eK : X.K = c.K) (hu : X.A.units + 64 < cLine) : IxR X (rIxD c) := by
  intro value slice pins s σ H x y v u Q I rx ry hq hs
  obtain ⟨d1, d2, h, r, h1, h2, hh, z⟩ := hq
  obtain ⟨d, e, q⟩ := z.some
  have dget : ∀ (k : Bool) (t : T) (kvs : List (T × T)), d2 = .s t → keyOk k t = true → dctOf d1 h = some (k, kvs) → (lookT t kvs).map D.s = some d → wpAny (model X.prog X.w) X.A (subscriptTail value slice v u) (EP X pins σ Q) X.xe s := fun k t kvs e2 kb ed el => by
    subst e2
    obtain ⟨a, rfl, zz⟩ := dct_read h1 hh ed
    obtain ⟨o, g, lk⟩ := dget_of zz (show RepT c r H t y from h2) kb
    cases (show v = Value.ref a from rx)
    cases e2 : lookT t kvs with
    | none => rw [e2] at el; cases el
    | some w =>
      rw [e2] at lk el
      cases el
      obtain ⟨w', rfl, l2⟩ := lk
      exact tail_any (dict_typeIs I g) PySem.F.slot_dict_getitem.lookup (d_getItem (by omega) I g ry fun u' s3 I3 r3 => ⟨w', H, I3, r3, fin_T q hh l2⟩) hs
  unfold ixD at e
  split at e
  · obtain rfl := h2
    rename_i i
    split at e
    · rename_i cs
      obtain ⟨rfl, hl⟩ := h1
      have e1 : (⟨cs.toArray⟩ : Str).length = cs.length := by show cs.toArray.size = _; simp
      cases ea : atT cs i with
      | none => rw [ea] at e; cases e
      | some ch =>
        rw [ea] at e
        cases e
        refine ix_str value slice pins s σ H _ _ v u Q I rx ry ⟨_, i, ch, rfl, rfl, by rw [e1]; exact hl, by (have := ea; unfold atT at this; simpa using this), fin_T q hh ⟨rfl, ?_⟩⟩ hs
        show 1 ≤ sizeLine
        decide
    · split at e
      · rename_i k kvs e1
        cases k with
        | true => cases e
        | false => exact dget false _ kvs rfl rfl e1 e
      · split at e
        · rename_i xs e1
          cases ea : atT xs i with
          | none => rw [ea] at e; cases e
          | some t =>
            rw [ea] at e
            cases e
            obtain ⟨a, vs, rfl, s1, t1⟩ := seq_read h1 hh e1
            obtain ⟨w, w1, w2⟩ := atT_read t1 ea
            rw [← eK] at s1
            rcases s1 with s1 | s1
            · exact ix_list value slice pins s σ H _ _ v u Q I rx ry ⟨a, vs, i, w, rfl, rfl, s1, w1, fin_T q hh w2⟩ hs
            · exact ix_tup value slice pins s σ H _ _ v u Q I rx ry ⟨a, vs, i, w, rfl, rfl, s1, w1, fin_T q hh w2⟩ hs
        · cases e
  · rename_i t ht
    split at e
    · rename_i k kvs e1
      split at e
      · rename_i hk
        cases k with
        | true => exact dget true t kvs rfl hk e1 e
        | false => exact dget false t kvs rfl hk e1 e
      · cases e
    · cases e
  · cases e
end
end Rm
set_option Elab.async false
set_option linter.all false
set_option autoImplicit false
set_option maxRecDepth 100000
/-! Soundness 3: built-ins and methods, by values. -/
namespace Rm
open PySem PySem.Spec PyProof.Rows L2
def RepDs (c : Tx) (r : List Addr) (H : Hp) : List D → List V → Prop
  | [], vs => vs = []
  | x :: xs, vs => ∃ v ws, vs = v :: ws ∧ RepD c r H x v ∧ RepDs c r H xs ws
section
variable {c : Tx} {X : Cx} {r r' : List Addr} {H H' : Hp} {h : LH}
theorem RepDs.ext (e : Ext c r H r' H') : ∀ {ts : List D} {vs : List V}, RepDs c r H ts vs → RepDs c r' H' ts vs
  | [], vs, h => h
  | x :: xs, vs, h => by
    obtain ⟨v, ws, e1, h1, h2⟩ := h
    exact ⟨v, ws, e1, h1.ext e, RepDs.ext e h2⟩
theorem RepDs.length : ∀ {xs : List D} {vs : List V}, RepDs c r H xs vs → vs.length = xs.length
  | [], vs, h => by rw [show vs = [] from h]; rfl
  | x :: xs, vs, h => by
    obtain ⟨v, ws, e, _, h2⟩ := h
    rw [e, List.length_cons, List.length_cons, RepDs.length h2]
theorem RepDs.one {x : D} {vs : List V} (z : RepDs c r H [x] vs) : ∃ v, vs = [v] ∧ RepD c r H x v := by
  obtain ⟨v, ws, rfl, h1, h2⟩ := z
  obtain rfl := (show ws = [] from h2)
  exact ⟨v, rfl, h1⟩
theorem RepDs.two {x y : D} {vs : List V} (z : RepDs c r H [x, y] vs) : ∃ v w, vs = [v, w] ∧ RepD c r H x v ∧ RepD c r H y w := by
  obtain ⟨v, ws, rfl, h1, h2⟩ := z
  obtain ⟨w, rfl, h3⟩ := RepDs.one h2
  exact ⟨v, w, rfl, h1, h3⟩
def rBi (c : Tx) (b : Bi) : List V → Hp → VK → Prop := fun xs H Q => ∃ ds h r, RepDs c r H ds xs ∧ HRel c r h H ∧ Out c (rD c) r H (toR (biD b ds h) h) Q
theorem bls_V : ∀ {ts : List T} {vs : List V} {bs : List Bool}, RepTs c r H ts vs → blsOf ts = some bs → vs = bs.map V.bl
  | [], vs, bs, z, e => by obtain rfl := z; cases e; rfl
  | t :: ts, vs, bs, z, e => by
    obtain ⟨v, ws, rfl, h1, h2⟩ := z
    cases t with
    | bl b =>
      obtain rfl := h1
      simp only [blsOf] at e
      cases q : blsOf ts with
      | none => rw [q] at e; cases e
      | some bs' => rw [q] at e; cases e; rw [bls_V h2 q]; rfl
    | _ => cases e
theorem ints_V : ∀ {ts : List T} {vs : List V} {bs : List Int}, RepTs c r H ts vs → intsOf ts = some bs → vs = bs.map V.int
  | [], vs, bs, z, e => by obtain rfl := z; cases e; rfl
  | t :: ts, vs, bs, z, e => by
    obtain ⟨v, ws, rfl, h1, h2⟩ := z
    cases t with
    | int b =>
      obtain rfl := h1
      simp only [intsOf] at e
      cases q : intsOf ts with
      | none => rw [q] at e; cases e
      | some bs' => rw [q] at e; cases e; rw [ints_V h2 q]; rfl
    | _ => cases e
theorem strs_V : ∀ {ts : List T} {vs : List V} {bs : List (List Nat)}, RepTs c r H ts vs → strsOf ts = some bs → vs = (bs.map fun x => (⟨x.toArray⟩ : Str)).map V.str
  | [], vs, bs, z, e => by obtain rfl := z; cases e; rfl
  | t :: ts, vs, bs, z, e => by
    obtain ⟨v, ws, rfl, h1, h2⟩ := z
    cases t with
    | str b =>
      obtain ⟨rfl, _⟩ := h1
      simp only [strsOf] at e
      cases q : strsOf ts with
      | none => rw [q] at e; cases e
      | some bs' => rw [q] at e; cases e; rw [strs_V h2 q]; rfl
    | _ => cases e
theorem Out.one1 {as : List D} {f : D → Option D} {Q : VK} (z : Out c (rD c) r H (toR (one1 as f) h) Q) : ∃ x, as = [x] ∧ Out c (rD c) r H (toR (f x) h) Q := by
  unfold Rm.one1 at z
  split at z
  · exact ⟨_, rfl, z⟩
  · exact z.elim
theorem str_len (cs : List Nat) : (⟨cs.toArray⟩ : Str).length = cs.length := by show cs.toArray.size = _; simp
theorem len_ok (eK : X.K = c.K) : CallR X (.builtin "len") (rBi c .len) := by
  intro pins s σ H xs us Q I rs hq
  obtain ⟨ds, h, r, h0, hh, z⟩ := hq
  obtain ⟨x, rfl, y0⟩ := Out.one1 (f := biLen h) (show Out c (rD c) r H (toR (one1 ds (biLen h)) h) Q from z)
  clear z
  obtain ⟨d, e, q⟩ := y0.some
  obtain ⟨v, rfl, h1⟩ := h0.one
  unfold biLen at e
  split at e
  · rename_i cs
    obtain ⟨rfl, hl⟩ := h1
    cases e
    refine call_len_str pins s σ H _ us Q I rs ⟨_, rfl, by rw [str_len]; exact hl, ?_⟩
    rw [str_len]
    exact fin_T q hh rfl
  · split at e
    · rename_i k kvs e1
      cases k with
      | true => cases e
      | false =>
        cases e
        obtain ⟨a, rfl, zz⟩ := dct_read h1 hh e1
        obtain ⟨kv, z1, z2⟩ := zz
        have el : kv.length = kvs.length := by
          clear z1 e1 q
          induction kvs generalizing kv with
          | nil => obtain rfl := z2; rfl
          | cons p ps ih =>
            obtain ⟨k, v, ws, rfl, _, _, _, h3⟩ := z2
            rw [List.length_cons, List.length_cons, ih ws h3]
        obtain ⟨u, rfl, ru⟩ := rs.one
        cases (show u = Value.ref a from ru)
        refine d_len I (.inl z1) fun t s' I' => ⟨.int kv.length, H, I', ⟨t, rfl⟩, ?_⟩
        rw [el]
        exact fin_T q hh rfl
    · cases e2 : seqOf x h with
      | none => rw [e2] at e; cases e
      | some ts =>
        rw [e2] at e
        cases e
        obtain ⟨a, vs, rfl, s1, t1⟩ := seq_read h1 hh e2
        rw [← eK] at s1
        refine call_len_seq pins s σ H _ us Q I rs ⟨a, vs, rfl, s1, ?_⟩
        rw [t1.length]
        exact fin_T q hh rfl
theorem all_ok (eK : X.K = c.K) (hc : X.calm = true) : CallR X (.builtin "all") (rBi c .all) := by
  intro pins s σ H xs us Q I rs hq
  obtain ⟨ds, h, r, h0, hh, z⟩ := hq
  obtain ⟨x, rfl, y0⟩ := Out.one1 (f := biAll h) (show Out c (rD c) r H (toR (one1 ds (biAll h)) h) Q from z)
  clear z
  obtain ⟨d, e, q⟩ := y0.some
  obtain ⟨v, rfl, h1⟩ := h0.one
  unfold biAll at e
  split at e
  · rename_i ts e1
    cases e2 : blsOf ts with
    | none => rw [e2] at e; cases e
    | some bs =>
      rw [e2] at e
      cases e
      obtain ⟨a, vs, rfl, s1, t1⟩ := lst_read h1 hh e1
      rw [← eK, bls_V t1 e2] at s1
      exact cr_all hc pins s σ H _ us Q I rs ⟨a, bs, rfl, s1, fin_T q hh rfl⟩
  · cases e
theorem any_ok (eK : X.K = c.K) (hc : X.calm = true) : CallR X (.builtin "any") (rBi c .any) := by
  intro pins s σ H xs us Q I rs hq
  obtain ⟨ds, h, r, h0, hh, z⟩ := hq
  obtain ⟨x, rfl, y0⟩ := Out.one1 (f := biAny h) (show Out c (rD c) r H (toR (one1 ds (biAny h)) h) Q from z)
  clear z
  obtain ⟨d, e, q⟩ := y0.some
  obtain ⟨v, rfl, h1⟩ := h0.one
  unfold biAny at e
  split at e
  · rename_i ts e1
    cases e2 : blsOf ts with
    | none => rw [e2] at e; cases e
    | some bs =>
      rw [e2] at e
      cases e
      obtain ⟨a, vs, rfl, s1, t1⟩ := lst_read h1 hh e1
      rw [← eK, bls_V t1 e2] at s1
      exact cr_any hc pins s σ H _ us Q I rs ⟨a, bs, rfl, s1, fin_T q hh rfl⟩
  · cases e
theorem sum_ok (eK : X.K = c.K) (hc : X.calm = true) : CallR X (.builtin "sum") (rBi c .sum) := by
  intro pins s σ H xs us Q I rs hq
  obtain ⟨ds, h, r, h0, hh, z⟩ := hq
  obtain ⟨x, rfl, y0⟩ := Out.one1 (f := biSum h) (show Out c (rD c) r H (toR (one1 ds (biSum h)) h) Q from z)
  clear z
  obtain ⟨d, e, q⟩ := y0.some
  obtain ⟨v, rfl, h1⟩ := h0.one
  unfold biSum at e
  split at e
  · rename_i ts e1
    cases e2 : intsOf ts with
    | none => rw [e2] at e; cases e
    | some bs =>
      rw [e2] at e
      cases e
      obtain ⟨a, vs, rfl, s1, t1⟩ := lst_read h1 hh e1
      rw [← eK, ints_V t1 e2] at s1
      exact cr_sum hc pins s σ H _ us Q I rs ⟨a, bs, rfl, s1, fin_T q hh rfl⟩
  · cases e
theorem tup_ok (eK : X.K = c.K) : CallR X (.type "tuple") (rBi c .tuple) := by
  intro pins s σ H xs us Q I rs hq
  obtain ⟨ds, h, r, h0, hh, z⟩ := hq
  obtain ⟨x, rfl, y0⟩ := Out.one1 (f := biTup h) (show Out c (rD c) r H (toR (one1 ds (biTup h)) h) Q from z)
  clear z
  obtain ⟨d, e, q⟩ := y0.some
  obtain ⟨v, rfl, h1⟩ := h0.one
  unfold biTup at e
  split at e
  · cases e
    obtain ⟨a, vs, rfl, s1, t1⟩ := h1
    have s1' := s1
    rw [← eK] at s1
    exact call_tuple_of pins s σ H _ us Q I rs ⟨a, vs, rfl, .inr ⟨s1.sq, fin_T q hh ⟨a, vs, rfl, s1', t1⟩⟩⟩
  · cases e2 : lstOf x h with
    | none => rw [e2] at e; cases e
    | some ts =>
      rw [e2] at e
      cases e
      obtain ⟨a, vs, rfl, s1, t1⟩ := lst_read h1 hh e2
      rw [← eK] at s1
      exact call_tuple_of pins s σ H _ us Q I rs ⟨a, vs, rfl, .inl ⟨s1, fun p hp => fin_tup q hh hp t1⟩⟩
theorem rep_keys : ∀ {kvs : List (T × T)} {kv : List (Key × V)}, RepK c r H kvs kv → RepTs c r H (kvs.map fun p => p.1) (kv.map fun p => kV p.1)
  | [], kv, z => by rw [show kv = [] from z]; rfl
  | p :: ps, kv, z => by
    obtain ⟨k, v, ws, rfl, _, h1, _, h3⟩ := z
    exact ⟨kV k, _, rfl, h1, rep_keys h3⟩
theorem lst_ok (eK : X.K = c.K) (hc : X.calm = true) : CallR X (.type "list") (rBi c .list) := by
  intro pins s σ H xs us Q I rs hq
  obtain ⟨ds, h, r, h0, hh, z⟩ := hq
  obtain ⟨x, rfl, y0⟩ := Out.one1 (f := biLst h) (show Out c (rD c) r H (toR (one1 ds (biLst h)) h) Q from z)
  clear z
  obtain ⟨d, e, q⟩ := y0.some
  obtain ⟨v, rfl, h1⟩ := h0.one
  unfold biLst at e
  split at e
  · rename_i k kvs e1
    cases k with
    | true => cases e
    | false =>
      cases e
      obtain ⟨a, rfl, zd⟩ := dct_read h1 hh e1
      obtain ⟨kv, z1, z2⟩ := zd
      exact call_list_dK hc pins s σ H _ us Q I rs ⟨a, kv, rfl, z1, fun p hp => fin_tl q hh hp (rep_keys z2)⟩
  · cases e2 : seqOf x h with
    | none => rw [e2] at e; cases e
    | some ts =>
      rw [e2] at e
      cases e
      obtain ⟨a, vs, rfl, s1, t1⟩ := seq_read h1 hh e2
      rw [← eK] at s1
      exact call_list_of pins s σ H _ us Q I rs ⟨a, vs, rfl, s1, fun p hp => fin_tl q hh hp t1⟩
theorem min_ok (hc : X.calm = true) : CallR X (.builtin "min") (rBi c .min) := by
  intro pins s σ H xs us Q I rs hq
  obtain ⟨ds, h, r, h0, hh, z⟩ := hq
  obtain ⟨d, e, q⟩ := z.some
  simp only [biD] at e
  unfold biMin at e
  split at e
  · cases e
    obtain ⟨v, w, rfl, h1, h2⟩ := h0.two
    obtain rfl := h1; obtain rfl := h2
    exact call_min2 hc pins s σ H _ us Q I rs ⟨_, _, rfl, fin_T q hh rfl⟩
  · cases e
theorem max_ok (hc : X.calm = true) : CallR X (.builtin "max") (rBi c .max) := by
  intro pins s σ H xs us Q I rs hq
  obtain ⟨ds, h, r, h0, hh, z⟩ := hq
  obtain ⟨d, e, q⟩ := z.some
  simp only [biD] at e
  unfold biMax at e
  split at e
  · cases e
    obtain ⟨v, w, rfl, h1, h2⟩ := h0.two
    obtain rfl := h1; obtain rfl := h2
    exact call_max2 hc pins s σ H _ us Q I rs ⟨_, _, rfl, fin_T q hh rfl⟩
  · cases e
theorem abs_ok : CallR X (.builtin "abs") (rBi c .abs) := by
  intro pins s σ H xs us Q I rs hq
  obtain ⟨ds, h, r, h0, hh, z⟩ := hq
  obtain ⟨x, rfl, y0⟩ := Out.one1 (f := biAbs) (show Out c (rD c) r H (toR (one1 ds (biAbs)) h) Q from z)
  clear z
  obtain ⟨d, e, q⟩ := y0.some
  obtain ⟨v, rfl, h1⟩ := h0.one
  unfold biAbs at e
  split at e
  · cases e
    obtain rfl := h1
    exact call_abs pins s σ H _ us Q I rs ⟨_, rfl, fin_T q hh rfl⟩
  · cases e
theorem insI_perm (x : Int) : ∀ l : List Int, (insI x l).Perm (x :: l)
  | [] => List.Perm.refl _
  | y :: l => by
    unfold insI
    split
    · exact List.Perm.refl _
    · exact ((insI_perm x l).cons y).trans (List.Perm.swap x y l)
theorem srtI_perm : ∀ l : List Int, (srtI l).Perm l
  | [] => List.Perm.refl _
  | x :: l => (insI_perm x _).trans ((srtI_perm l).cons x)
theorem insI_srt (x : Int) : ∀ l : List Int, l.Pairwise (· ≤ ·) → (insI x l).Pairwise (· ≤ ·)
  | [], _ => by simp [insI]
  | y :: l, h => by
    unfold insI
    rw [List.pairwise_cons] at h
    split
    · rename_i q
      rw [List.pairwise_cons]
      refine ⟨fun z hz => ?_, List.pairwise_cons.mpr h⟩
      rcases List.mem_cons.mp hz with rfl | hz
      · exact q
      · exact Int.le_trans q (h.1 z hz)
    · rename_i q
      rw [List.pairwise_cons]
      refine ⟨fun z hz => ?_, insI_srt x l h.2⟩
      rcases List.mem_cons.mp ((insI_perm x l).mem_iff.mp hz) with rfl | hz
      · omega
      · exact h.1 z hz
theorem srtI_srt : ∀ l : List Int, (srtI l).Pairwise (· ≤ ·)
  | [] => List.Pairwise.nil
  | x :: l => insI_srt x _ (srtI_srt l)
theorem srt_uniq : ∀ {l m : List Int}, l.Perm m → l.Pairwise (· ≤ ·) → m.Pairwise (· ≤ ·) → l = m
  | [], m, p, _, _ => (List.nil_perm.mp p).symm
  | x :: l, [], p, _, _ => by have := p.length_eq; simp at this
  | x :: l, y :: m, p, h, h' => by
    rw [List.pairwise_cons] at h h'
    have e : x = y := by
      have a : x ∈ y :: m := p.mem_iff.mp (List.mem_cons_self ..)
      have b : y ∈ x :: l := p.mem_iff.mpr (List.mem_cons_self ..)
      rcases List.mem_cons.mp a with a | a
      · exact a
      · rcases List.mem_cons.mp b with b | b
        · exact b.symm
        · have := h'.1 x a; have := h.1 y b; omega
    subst e
    rw [srt_uniq (List.Perm.cons_inv p) h.2 h'.2]
theorem srt_eq {ns' ns : List Int} (p : ns'.Perm ns) (h : ns'.Pairwise (· ≤ ·)) : ns' = srtI ns := srt_uniq (p.trans (srtI_perm ns).symm) h (srtI_srt ns)
theorem rep_ints {r : List Addr} {H : Hp} : ∀ ns : List Int, RepTs c r H (ns.map T.int) (ns.map V.int)
  | [] => rfl
  | n :: ns => ⟨.int n, _, rfl, rfl, rep_ints ns⟩
theorem keys_ints {r : List Addr} {H : Hp} : ∀ {kvs : List (T × T)} {kv : List (Key × V)} {is : List Int}, RepK c r H kvs kv → intsOf (kvs.map fun p => p.1) = some is → kv.map (·.1) = is.map Sum.inl
  | [], kv, is, h, e => by obtain rfl := h; cases e; rfl
  | p :: ps, kv, is, h, e => by
    obtain ⟨k, v, ws, rfl, h0, h1, h2, h3⟩ := h
    obtain ⟨p1, p2⟩ := p
    cases p1 with
    | int i =>
      rw [List.map_cons] at e
      unfold intsOf at e
      cases q : intsOf (ps.map fun p => p.1) with
      | none => rw [q] at e; cases e
      | some js =>
        rw [q] at e
        cases e
        have ek := keyT_of h1 h0
        rw [List.map_cons, List.map_cons, keys_ints h3 q]
        congr 1
        cases k with
        | inl j => injection ek with ek; rw [ek]
        | inr x => cases ek
    | _ => cases e
theorem sort_ok (eK : X.K = c.K) (hc : X.calm = true) : CallR X (.builtin "sorted") (rBi c .sorted) := by
  intro pins s σ H xs us Q I rs hq
  obtain ⟨ds, h, r, h0, hh, z⟩ := hq
  obtain ⟨x, rfl, y0⟩ := Out.one1 (f := biSort h) (show Out c (rD c) r H (toR (one1 ds (biSort h)) h) Q from z)
  clear z
  obtain ⟨d, e, q⟩ := y0.some
  obtain ⟨v, rfl, h1⟩ := h0.one
  unfold biSort at e
  split at e
  · rename_i k kvs e1
    split at e
    · cases e
    · rename_i hk
      have hk : k = false := by cases k <;> first | rfl | exact absurd rfl hk
      subst hk
      split at e
      · rename_i is e2
        split at e
        · rename_i h64
          cases e
          obtain ⟨a, rfl, zd⟩ := dct_read h1 hh e1
          obtain ⟨kv, z1, z2⟩ := zd
          refine call_sortedDI hc pins s σ H _ us Q I rs ⟨a, kv, is, rfl, .inl z1, keys_ints z2 e2, of_decide_eq_true h64, fun ys p pm hs hp => ?_⟩
          rw [srt_eq pm hs]
          exact fin_tl q hh hp (rep_ints _)
        · cases e
      · cases e
  · split at e
    · rename_i ts e1
      cases e2 : intsOf ts with
      | none => rw [e2] at e; cases e
      | some is =>
        rw [e2] at e
        cases e
        obtain ⟨a, vs, rfl, s1, t1⟩ := lst_read h1 hh e1
        rw [← eK, ints_V t1 e2] at s1
        refine cr_sortedI pins s σ H _ us Q I rs ⟨a, is, rfl, s1, fun ys p pm hs hp => ?_⟩
        rw [srt_eq pm hs]
        exact fin_tl q hh hp (rep_ints _)
    · cases e
theorem str_ok : CallR X (.type "str") (rBi c .str) := by
  intro pins s σ H xs us Q I rs hq
  obtain ⟨ds, h, r, h0, hh, z⟩ := hq
  obtain ⟨x, rfl, y0⟩ := Out.one1 (f := biStr) (show Out c (rD c) r H (toR (one1 ds biStr) h) Q from z)
  clear z
  obtain ⟨d, e, q⟩ := y0.some
  obtain ⟨v, rfl, h1⟩ := h0.one
  unfold biStr at e
  split at e
  · rename_i i
    split at e
    · rename_i hs
      obtain ⟨g1, g2⟩ := Bool.and_eq_true_iff.mp hs
      cases e
      obtain rfl := h1
      refine call_str_int pins s σ H _ us Q I rs ⟨i, rfl, of_decide_eq_true g1, ?_⟩
      have e2 : (⟨(txtI i).toArray⟩ : Str) = Str.ofString (toString i) := by simp [txtI]
      have := fin_T (t := .str (txtI i)) (v := .str ⟨(txtI i).toArray⟩) q hh ⟨rfl, sizeOk_le g2⟩
      rw [e2] at this
      exact this
    · cases e
  · cases e
    obtain ⟨rfl, hl⟩ := (show v = .str ⟨_⟩ ∧ _ from h1)
    exact SkE.call_str_str pins s σ H _ us Q I rs ⟨_, rfl, fin_T q hh ⟨rfl, hl⟩⟩
  · cases e
theorem int_ok : CallR X (.type "int") (rBi c .int) := by
  intro pins s σ H xs us Q I rs hq
  obtain ⟨ds, h, r, h0, hh, z⟩ := hq
  obtain ⟨x, rfl, y0⟩ := Out.one1 (f := biInt) (show Out c (rD c) r H (toR (one1 ds biInt) h) Q from z)
  clear z
  obtain ⟨d, e, q⟩ := y0.some
  obtain ⟨v, rfl, h1⟩ := h0.one
  unfold biInt at e
  split at e
  · cases e
    obtain rfl := h1
    exact call_int1 pins s σ H _ us Q I rs (.inl ⟨_, rfl, fin_T q hh rfl⟩)
  · cases e
    obtain rfl := h1
    exact call_int1 pins s σ H _ us Q I rs (.inr ⟨_, rfl, fin_T q hh rfl⟩)
  · rename_i z
    split at e
    · rename_i hl
      cases e2 : intText? ⟨z.toArray⟩ with
      | none => rw [e2] at e; cases e
      | some m =>
        rw [e2] at e
        cases e
        obtain ⟨rfl, _⟩ := (show v = .str ⟨_⟩ ∧ _ from h1)
        refine call_int_str pins s σ H _ us Q I rs ⟨_, m, rfl, e2, ?_, fin_T q hh rfl⟩
        have := of_decide_eq_true hl
        show z.toArray.size ≤ 640
        simpa using this
    · cases e
  · cases e
section
variable {r : List Addr} {H : Hp}
theorem keyB_T (k : Key) : keyB (keyT k) = true := by cases k <;> rfl
theorem RepK.append : ∀ {xs ys : List (T × T)} {vs ws : List (Key × V)}, RepK c r H xs vs → RepK c r H ys ws → RepK c r H (xs ++ ys) (vs ++ ws)
  | [], ys, vs, ws, h, h' => by rw [show vs = [] from h]; exact h'
  | x :: xs, ys, vs, ws, h, h' => by
    obtain ⟨k, v, us, rfl, h0, h1, h2, h3⟩ := h
    exact ⟨k, v, us ++ ws, rfl, h0, h1, h2, RepK.append h3 h'⟩
theorem RepK.any (k : Key) : ∀ {kvs : List (T × T)} {kv : List (Key × V)}, RepK c r H kvs kv → (kvs.any fun p => decide (p.1 = keyT k)) = kv.any fun p => decide (p.1 = k)
  | [], kv, h => by rw [show kv = [] from h]; rfl
  | p :: ps, kv, h => by
    obtain ⟨q, v, ws, rfl, h0, h1, h2, h3⟩ := h
    rw [List.any_cons, List.any_cons, RepK.any k h3]
    congr 1
    have ek := keyT_of h1 h0
    by_cases e : q = k
    · subst e; simp [ek]
    · simp only [e, decide_false, decide_eq_false_iff_not]
      intro e'
      exact e (keyT_inj (ek.trans e'))
theorem RepK.map {k : Key} {t : T} {v : V} (z : RepT c r H t v) : ∀ {kvs : List (T × T)} {kv : List (Key × V)}, RepK c r H kvs kv → RepK c r H (kvs.map fun p => if p.1 = keyT k then (p.1, t) else p) (kv.map fun p => if p.1 = k then (p.1, v) else p)
  | [], kv, h => by rw [show kv = [] from h]; rfl
  | p :: ps, kv, h => by
    obtain ⟨q, u, ws, rfl, h0, h1, h2, h3⟩ := h
    have ek := keyT_of h1 h0
    have ih := RepK.map (k := k) z h3
    rw [List.map_cons, List.map_cons]
    by_cases e : q = k
    · subst e
      rw [if_pos rfl, if_pos ek.symm]
      exact ⟨_, _, _, rfl, h0, h1, z, ih⟩
    · rw [if_neg e, if_neg (fun e' => e (keyT_inj (ek.trans e')))]
      exact ⟨_, _, _, rfl, h0, h1, h2, ih⟩
theorem RepK.put {k : Key} {t : T} {v : V} {kvs : List (T × T)} {kv : List (Key × V)} (h : RepK c r H kvs kv) (zk : RepT c r H (keyT k) (kV k)) (z : RepT c r H t v) : RepK c r H (putT (keyT k) t kvs) (putK kv k v) := by
  unfold putT putK
  rw [RepK.any k h]
  split
  · exact RepK.map z h
  · exact h.append ⟨k, v, [], rfl, keyB_T k, zk, z, rfl⟩
theorem RepK.length : ∀ {xs : List (T × T)} {vs : List (Key × V)}, RepK c r H xs vs → vs.length = xs.length
  | [], vs, h => by rw [show vs = [] from h]; rfl
  | x :: xs, vs, h => by
    obtain ⟨k, v, us, rfl, h0, h1, h2, h3⟩ := h
    rw [List.length_cons, List.length_cons, RepK.length h3]
theorem RepK.merge : ∀ {more : List (T × T)} {mv : List (Key × V)} {kvs : List (T × T)} {kv : List (Key × V)}, RepK c r H more mv → RepK c r H kvs kv → RepK c r H (more.foldl (fun acc p => putT p.1 p.2 acc) kvs) (mergeK kv mv)
  | [], mv, kvs, kv, h, h' => by rw [show mv = [] from h]; exact h'
  | p :: ps, mv, kvs, kv, h, h' => by
    obtain ⟨q, u, ws, rfl, h0, h1, h2, h3⟩ := h
    have ek := keyT_of h1 h0
    have : RepK c r H (putT p.1 p.2 kvs) (putK kv q u) := by
      rw [← ek]
      exact h'.put (by rw [ek]; exact h1) h2
    exact RepK.merge (more := ps) (mv := ws) h3 this
end
theorem prsT_rep {r : List Addr} {H : Hp} : ∀ {xs : List T} {vs : List V} {kvs : List (T × T)}, RepTs c r H xs vs → prsT xs = some kvs → ∃ (ps : List Addr) (kv : List (Key × V)), vs = ps.map V.ref ∧ Paired (fun p kv => SqT c.K H p [kV kv.1, kv.2]) ps kv ∧ RepK c r H kvs kv
  | [], vs, kvs, h, e => by
    cases e
    exact ⟨[], [], h, .nil, rfl⟩
  | x :: xs, vs, kvs, h, e => by
    obtain ⟨v, ws, rfl, h1, h2⟩ := h
    unfold prsT at e
    split at e
    · rename_i h0; cases h0
    · rename_i k0 v0 xs0 h0
      cases h0
      split at e
      · rename_i kb
        cases q : prsT xs with
        | none => rw [q] at e; cases e
        | some ks =>
          rw [q] at e
          cases e
          obtain ⟨ps, kv, e1, e2, e3⟩ := prsT_rep h2 q
          obtain ⟨p, us, rfl, s1, k1, us1, rfl, w1, v1, us2, rfl, w2, e4⟩ := h1
          obtain rfl : us2 = [] := e4
          obtain ⟨qk, rfl, eqk⟩ := key_of w1 kb
          exact ⟨p :: ps, (qk, v1) :: kv, by rw [e1]; rfl, .cons s1.sq e2, qk, v1, kv, rfl, kb, w1, w2, e3⟩
      · cases e
    · cases e
theorem dict_ok (eK : X.K = c.K) (hc : X.calm = true) : CallR X (.type "dict") (rBi c .dict) := by
  intro pins s σ H xs us Q I rs hq
  obtain ⟨ds, h, r, h0, hh, z⟩ := hq
  obtain ⟨x, rfl, y0⟩ := Out.one1 (f := biDict h) (show Out c (rD c) r H (toR (one1 ds (biDict h)) h) Q from z)
  clear z
  obtain ⟨d, e, q⟩ := y0.some
  obtain ⟨v, rfl, h1⟩ := h0.one
  unfold biDict at e
  split at e
  · rename_i ts e1
    cases e2 : prsT ts with
    | none => rw [e2] at e; cases e
    | some kvs =>
      rw [e2] at e
      cases e
      obtain ⟨a, vs, rfl, s1, t1⟩ := lst_read h1 hh e1
      obtain ⟨ps, kv, rfl, e3, e4⟩ := prsT_rep t1 e2
      rw [← eK] at s1 e3
      refine call_dictP hc pins s σ H _ us Q I rs ⟨a, ps, kv, rfl, s1, e3, fun p hp => ?_⟩
      refine q (.ref p) r _ ⟨⟨p, rfl, ⟨_, upd_same, RepK.ext (Ext.new hp) _ _ (RepK.merge e4 rfl)⟩, hh.nin hp⟩, fun _ b eb => by cases eb; exact hp⟩ (hh.new hp) (Ext.new hp)
  · cases e
theorem repr_ok (eK : X.K = c.K) (hu : X.A.units + 64 < cLine) (hg : X.A.guards = some []) : CallR X (.builtin "repr") (rBi c .repr) := by
  intro pins s σ H xs us Q I rs hq
  obtain ⟨ds, h, r, h0, hh, z⟩ := hq
  obtain ⟨x, rfl, y0⟩ := Out.one1 (f := reprD h) (show Out c (rD c) r H (toR (one1 ds (reprD h)) h) Q from z)
  clear z
  obtain ⟨d, e, q⟩ := y0.some
  obtain ⟨v, rfl, h1⟩ := h0.one
  unfold reprD at e
  split at e
  · rename_i p e1
    split at e
    · rename_i hs
      cases e
      rw [Bool.and_eq_true, Bool.and_eq_true, Bool.and_eq_true] at hs
      obtain ⟨⟨⟨g1, g2⟩, g3⟩, g4⟩ := hs
      have g3 : p.depth ≤ 60 := of_decide_eq_true g3
      have g2 := sizeOk_le g2
      have g4 : p.hasDict = false := by simpa using g4
      have qq : Q (.str p.shown) H := by
        have e2 : (⟨p.shown.cps.toList.toArray⟩ : Str) = p.shown := by simp
        rw [← e2]
        exact fin_T q hh ⟨rfl, by rw [Array.length_toList]; exact g2⟩
      have dp := datD_ok hh h1 e1
      rw [← eK] at dp
      obtain ⟨u, rfl, ru⟩ := rs.one
      obtain ⟨as, rd⟩ := Dp.reads I p v u dp ru
      have fin : ∀ (h' : Heap) (u' : Tok) (tk : Nat), (∀ b o, s.heap.get? b = some o → h'.get? b = some o) → EP X pins σ Q (.str p.shown u') { s with heap := h', toks := tk } := fun h' u' tk hk => ⟨.str p.shown, H, I.kept hk, ⟨u', rfl⟩, qq⟩
      cases dp with
      | non => cases ru; exact PySem.P.repr_of_none (fin s.heap _ _ fun _ _ e => e)
      | bl b => cases ru; exact PySem.P.repr_of_bool (by have := fin s.heap s.toks (s.toks + 1) fun _ _ e => e; cases b <;> exact this)
      | int i => obtain ⟨t, rfl⟩ := ru; exact PySem.P.repr_of_int (of_decide_eq_true g1) (fin s.heap _ _ fun _ _ e => e)
      | str y => obtain ⟨t, rfl⟩ := ru; exact PySem.P.repr_of_str (fin s.heap _ _ fun _ _ e => e) (hsz := g2)
      | lst _ _ => cases ru; exact repr_of_reads' rd g1 (PyData.noDict_hsm g4) hg (by omega) (fun _ _ e => e) fin g2
      | tup _ _ => cases ru; exact repr_of_reads' rd g1 (PyData.noDict_hsm g4) hg (by omega) (fun _ _ e => e) fin g2
    · cases e
  · cases e
end
end Rm
set_option Elab.async false
set_option linter.all false
set_option autoImplicit false
set_option maxRecDepth 100000
/-! Soundness 4: calls of defs; the matching of syntax; expressions. -/
namespace Rm
open PySem PySem.Spec PyProof.Rows L2
/-- as FnOk, where nothing is being shown around (no guard) and nothing is raised -/
structure FnG (P : Program) (w : World) (K : PySem.W.Frag) (mg : Str → Option Value) (base : Heap) (k : Nat) (f : Addr) (fd : FuncData) (ps : List Str) (sp : Sp) : Prop where
  len : ∀ vs H Q E, sp vs H Q E → vs.length = ps.length
  run : ∀ (A : Around) (outer : List Env) (s : Shared) (H : Hp) (args : Args) (us : List Value) (vs : List V) (Q : VK) (E : XK), Room k A → A.guards = some [] → Env0 P w K mg base A outer s H → BindsTo s fd args (ps.zip us) → Vals vs us → sp vs H Q E →
    codeAny (model P w) A (.call (.ref f) args) (CR CX0 outer P w H s Q E) s
section
variable {X : Cx} {k i : Nat} {f : Addr} {fd : FuncData} {ps : List Str} {sp : Sp} {x : Str} {p pos : Pos} {e : Expr} {es : List Expr} {t : TA}
theorem run_fnG {pins : List (Addr × Obj)} {σ : L2.St} {H : Hp} {s : Shared} {Q : VK} {us : List Value} {vs : List V} (F : FnG X.prog X.w X.K X.mg X.base k f fd ps sp) (hr : Room k X.A) (hg : X.A.guards = some []) (hb : Binds X.K fd ps [])
    (I : Inv X pins σ H s) (r : Vals vs us) (h : sp vs H Q E0) : wpAny (model X.prog X.w) X.A (call (.ref f) us) (EP X pins σ Q) X.xe s := by
  have hl : us.length = ps.length := by rw [← r.length]; exact F.len _ _ _ _ h
  have hb' := hb s us I.kIn (by rw [List.append_nil]; exact hl)
  rw [List.append_nil] at hb'
  refine wpAny_call (codeAny_mono (F.run X.A X.stack s H ⟨us, []⟩ us vs Q E0 hr hg I.env0 hb' r h) fun r s' hq => ?_)
  cases r with
  | error e => exact False.elim hq
  | ok fl =>
    cases fl with
    | ret u => exact I.after hq
    | next => exact False.elim hq
    | brk => exact False.elim hq
    | cont => exact False.elim hq
def tCallG (sp : Sp) (t : TA) : TE := fun σ H Q => t σ H fun vs H1 => sp vs H1 Q E0
theorem pe_callG (F : FnG X.prog X.w X.K X.mg X.base k f fd ps sp) (hr : Room k X.A) (hg : X.A.guards = some []) (hx : Gl X x) (hm : X.mg x = some (.ref f)) (hk : PySem.W.keepIn X.K (.ref f) = true) (hb : Binds X.K fd ps [])
    (ha : PA X (e :: es) t) (hdb : (x == ("__debug__" : Str)) = false) (he : starEach (e :: es) X.env = (false, eval e X.env) :: starEach es X.env) (hpl : (backTo pos (starEach es X.env)).any (·.1) = false) :
    PE X (.Call (.Name x p) (e :: es) [] pos) (tCallG sp t) := by
  refine ⟨fun pins s σ H Q I h => ?_⟩
  refine wpAny_Call_Name_kw (ld_glob I hx hm ?_ hdb)
  refine PySem.W.callWith_K (h₀ := X.base) I.ok.mod.kin hk (thn (ha.run pos pins s σ H _ I h) fun us s1 ⟨vs, H1, I1, r, q⟩ => ⟨I1.kIn, ?_⟩) he hpl
  exact run_fnG F hr hg hb I1 r q
theorem pe_callG0 (F : FnG X.prog X.w X.K X.mg X.base k f fd ps sp) (hr : Room k X.A) (hg : X.A.guards = some []) (hx : Gl X x) (hm : X.mg x = some (.ref f)) (hk : PySem.W.keepIn X.K (.ref f) = true) (hb : Binds X.K fd ps [])
    (hdb : (x == ("__debug__" : Str)) = false) : PE X (.Call (.Name x p) [] [] pos) (tCallG sp tNil) := by
  refine ⟨fun pins s σ H Q I h => ?_⟩
  refine wpAny_Call_Name_kw (ld_glob I hx hm ?_ hdb)
  exact PySem.W.callWith_K0 I.kIn hk (run_fnG (us := []) F hr hg hb I .nil h)
def tCallGL (i : Nat) (S : Addr → Sp → Prop) (t : TA) : TE := fun σ H Q => ∃ f sp, σ[i]? = some (some (.ref f)) ∧ S f sp ∧ t σ H fun vs H1 => sp vs H1 Q E0
theorem pe_callGL {S : Addr → Sp → Prop} (F : ∀ f sp, S f sp → ∃ fd ps, FnG X.prog X.w X.K X.mg X.base k f fd ps sp ∧ PySem.W.keepIn X.K (.ref f) = true ∧ Binds X.K fd ps []) (hr : Room k X.A) (hg : X.A.guards = some []) (hN : X.N[i]? = some x) (hv : Vis X.env.scope x) (ha : PA X (e :: es) t)
    (hdb : (x == ("__debug__" : Str)) = false) (hcd : (x == ("__classdict__" : Str)) = false)
    (he : starEach (e :: es) X.env = (false, eval e X.env) :: starEach es X.env) (hpl : (backTo pos (starEach es X.env)).any (·.1) = false) : PE X (.Call (.Name x p) (e :: es) [] pos) (tCallGL i S t) := by
  refine ⟨fun pins s σ H Q I h => ?_⟩
  obtain ⟨f, sp, hs, hS, ht⟩ := h
  obtain ⟨fd, ps, F, hk, hb⟩ := F f sp hS
  refine wpAny_Call_Name_kw (thn ((pe_var (pos := p) hN hv hdb hcd).run pins s σ H (fun v H1 => v = .ref f ∧ H1 = H) I ⟨.ref f, hs, rfl, rfl⟩) fun u s1 ⟨v, H1, I1, r1, q1⟩ => ?_)
  obtain ⟨rfl, rfl⟩ := q1
  cases r1
  refine PySem.W.callWith_K (h₀ := X.base) I.ok.mod.kin hk (thn (ha.run pos pins s1 σ _ _ I1 ht) fun us s2 ⟨vs, H2, I2, r, q⟩ => ⟨I2.kIn, ?_⟩) he hpl
  exact run_fnG F hr hg hb I2 r q
theorem fn_ofG {P : Program} {w : World} {K : PySem.W.Frag} {mg : Str → Option Value} {base : Heap} {k : Nat} {f : Addr} {name qual : Str} {params : Arguments} {body : List Stmt} {scope : Scope} {dV kV doc pm cdv ct oc : Value} {an od : Option Addr}
    {osl : Array (Option Value)} {N ps : List Str} {sp : Sp} (lk : K.lookup f = some ⟨oc, od, .func (PySem.W.fnOf name qual params body scope dV kV doc pm an cdv ct), osl⟩) (hcd : PySem.W.codeIn K cdv qual = true) (S : FnScope N ps scope)
    (len : ∀ vs H Q E, sp vs H Q E → vs.length = ps.length)
    (hbody : ∀ (A : Around) (outer : List Env) (s : Shared) (H : Hp) (vs : List V) (Q : VK) (E : XK), Room k (A.deeper (envOfC qual scope s.heap.objs.size f cdv)) → A.guards = some [] → sp vs H Q E →
      ∃ t, PSs (cxOf CX0 P w K mg base N qual scope f cdv A outer s H E).nox body t ∧ t { nx := fun _ H' => Q .non H', rt := Q } (start N vs) H) :
    FnG P w K mg base (k + 1) f (PySem.W.fnOf name qual params body scope dV kV doc pm an cdv ct) ps sp := by
  refine ⟨len, fun A outer s H args us vs Q E hr hgd e0 hb r hsp => ?_⟩
  have hl := len _ _ _ _ hsp
  have KX : K.In s.heap := e0.mod.kin.keeps fun b o e => (e0.bs b o e).1
  have lim : s.heap.NoLimit := e0.mod.nolimit.keeps fun b o e => (e0.bs b o e).1
  have hkind : ∀ y ∈ ps.zip us, scope.names.lookup y.1 = some .local ∨ (scope.names.lookup y.1 = some .cell ∧ ((cellsFrom (s.heap.objs.size + 1) scope.names []).lookup y.1).isSome = true) := fun ⟨n, v⟩ hy => by
    rcases S.par n (List.of_mem_zip hy).1 with q | q
    · exact .inl q
    · exact .inr ⟨q, PySem.W.cellsFrom_some _ _ _ (.inl q)⟩
  refine codeAny_call_function hr.depth (KX _ _ lk) rfl S.co S.gen rfl (PySem.W.codeRec_of KX hcd) (hb _ _ _ _ ?_)
  refine wpAny_newFunctionEnv_cells S.kind hkind fun env he s1 x => ?_
  subst he
  refine ⟨lim.keeps x.toInCall.keep, codeAny_func ?_⟩
  obtain ⟨t, ht, hq⟩ := hbody A outer s H vs Q E (hr.deeper _) hgd hsp
  have I : Inv (cxOf CX0 P w K mg base N qual scope f cdv A outer s H E) [] (start N vs) H s1 := inv_start S hr.hd e0 hl r x
  refine wpAny_mono (ht.nox.run [] s1 (start N vs) H _ I hq) (fun fl s' hs => ?_) fun e s' hs => hs
  have fin : ∀ {σ' : L2.St} {H' : Hp} {v : V} {u : Value}, Inv (cxOf CX0 P w K mg base N qual scope f cdv A outer s H E) [] σ' H' s' → RelV v u → Q v H' → CE outer P w H s Q u s' :=
    fun {σ' H' v u} J rv q => ⟨v, H', J.os, J.bare, J.base, J.hok, rv, q⟩
  cases fl with
  | ret u =>
    obtain ⟨v, σ', H', J, rv, q⟩ := hs
    exact fin J rv q
  | next =>
    obtain ⟨σ', H', J, q⟩ := hs
    exact fin (v := V.non) (u := Value.none) J rfl q
  | brk =>
    obtain ⟨_, _, _, q⟩ := hs
    exact False.elim q
  | cont =>
    obtain ⟨_, _, _, q⟩ := hs
    exact False.elim q
end
/-! ### matching -/
def glB (sc : Scope) (x : Str) : Bool := decide (sc.names.lookup x = some .globalImplicit) && !(x == ("__debug__" : Str))
def visB (sc : Scope) (x : Str) : Bool := (decide (sc.names.lookup x = some .local) || decide (sc.names.lookup x = some .cell) || decide (sc.names.lookup x = some .free)) && !(x == ("__debug__" : Str)) && !(x == ("__classdict__" : Str))
def locB (sc : Scope) (x : Str) : Bool := decide (sc.names.lookup x = some .local) || decide (sc.names.lookup x = some .cell)
def mC : T → Const → Bool
  | .non, .none => true
  | .bl a, .bool b => a == b
  | .int a, .int b => a == b
  | .str s, .str x => decide ((⟨s.toArray⟩ : Str) = x) && sizeOk s.length
  | _, _ => false
def biNm : Bi → Str
  | .len => "len" | .all => "all" | .any => "any" | .sum => "sum" | .tuple => "tuple" | .list => "list" | .sorted => "sorted" | .repr => "repr"
  | .min => "min" | .max => "max" | .abs => "abs" | .str => "str" | .int => "int" | .dict => "dict" | .set => "set" | .bool => "bool"
def biHas : Bi → Bool
  | .len => true | .all => true | .any => true | .sum => true | .tuple => true | .list => true | .repr => true | .min => true | .max => true | .abs => true | .str => true | .int => true | .sorted => true | .dict => true
  | _ => false
def meNm : Me → Str
  | .join => "join" | .split => "split" | .get => "get" | .index => "index" | .upper => "upper" | .count => "count"
def meAr (m : Me) (k : Nat) : Bool := match m with
  | .join => k == 1 | .split => k == 1 | .get => k == 2 | .index => k == 1 | _ => false
def tyNm : Ty → Str
  | .int => "int" | .bool => "bool" | .str => "str" | .tup => "tuple" | .lst => "list" | .dct => "dict"
-- of a target: its names are the own ones of the block
mutual
def mG (N : List Str) (own : List Nat) (sc : Scope) : Tg → Expr → Bool
  | .n i, .Name x _ => decide (N[i]? = some x) && locB sc x && (own.contains i)
  | .t ts, .Tuple es _ _ => mGs N own sc ts es
  | _, _ => false
def mGs (N : List Str) (own : List Nat) (sc : Scope) : List Tg → List Expr → Bool
  | [], [] => true
  | t :: ts, e :: es => mG N own sc t e && mGs N own sc ts es
  | _, _ => false
end
def recvB : Expr → Bool
  | .Call (.Name _ _) [] [] _ => false
  | _ => true
@[simp] def noLC : Expr → Bool
  | .ListComp _ _ _ _ => false
  | _ => true
def ownS (N : List Str) (own : List Nat) : List (Str × Nat) := own.map fun i => (N.getD i "", i)
mutual
def mE (nm : Nm) (N : List Str) : Ex → Scope → Expr → Bool
  | .c t, _, .Constant k _ _ => mC t k
  | .v i, sc, .Name x _ => decide (N[i]? = some x) && visB sc x
  | .g k, sc, .Name x _ => decide (nm.gn k = x) && glB sc x
  | .gin neg a k, sc, .Compare l [o] [.Name x _] _ => decide ((if neg then CmpOp.NotIn else CmpOp.In) = o) && decide (nm.gn k = x) && glB sc x && mE nm N a sc l
  | .gix k a, sc, .Subscript (.Name x _) y _ => decide (nm.gn k = x) && glB sc x && mE nm N a sc y
  | .fr f, sc, .Name x _ => decide (nm.fn f = x) && glB sc x
  | .bin op a b, sc, .BinOp l o r _ => decide (bopOf op = o) && mE nm N a sc l && mE nm N b sc r
  | .neg a, sc, .UnaryOp .USub e _ => mE nm N a sc e
  | .cmp op a b, sc, .Compare l [o] [r] _ => decide (copOf op = o) && mE nm N a sc l && mE nm N b sc r
  | .chn p q a b d, sc, .Compare l [o, o'] [m, r] _ => decide (copOf p = o) && decide (copOf q = o') && mE nm N a sc l && mE nm N b sc m && mE nm N d sc r
  | .not a, sc, .UnaryOp .Not e _ => mE nm N a sc e
  | .and es, sc, .BoolOp .And vs _ => !vs.isEmpty && mEs nm N es sc vs
  | .or es, sc, .BoolOp .Or vs _ => !vs.isEmpty && mEs nm N es sc vs
  | .ite d a b, sc, .IfExp t x y _ => mE nm N d sc t && mE nm N a sc x && mE nm N b sc y
  | .tup es, sc, .Tuple vs _ _ => mEs nm N es sc vs
  | .lst es, sc, .List vs _ => mEs nm N es sc vs
  | .dsp _ es, sc, .Dict ks vs _ => decide (ks.length ≤ 15) && mP nm N es sc ks vs
  | .ix a i, sc, .Subscript x y _ => mE nm N a sc x && mE nm N i sc y
  | .sl a lo hi, sc, .Subscript x (.Slice l u none _) _ => mE nm N a sc x && mO nm N lo sc l && mO nm N hi sc u
  | .lc elt tg it cnd own, sc, .ListComp e [⟨t, i, ifs, k⟩] scope _ => decide (k = 0) && blkC N sc scope (ownS N own) && mG N own scope tg t && mI nm N it sc t i && mEs nm N cnd (relS scope sc) ifs && mE nm N elt (relS scope sc) e
  | .call f as, sc, .Call (.Name x _) vs [] _ => decide (nm.fn f = x) && glB sc x && mEs nm N as sc vs
  | .calv i as, sc, .Call (.Name x _) vs [] _ => decide (N[i]? = some x) && visB sc x && !vs.isEmpty && mEs nm N as sc vs
  | .bi b as, sc, .Call (.Name x _) vs [] _ => biHas b && decide (biNm b = x) && glB sc x && !vs.isEmpty && mEs nm N as sc vs
  | .me m o as, sc, .Call (.Attribute e a ap) vs [] cp => decide (meNm m = a) && (ap.endLine == cp.line) && recvB e && mE nm N o sc e && mEs nm N as sc vs && meAr m vs.length
  | .isi a ts, sc, .Call (.Name x _) [e, .Name y _] [] _ => decide (x = "isinstance") && glB sc x && glB sc y && (match ts with | [t] => decide (tyNm t = y) | _ => false) && mE nm N a sc e
  | .fx a, sc, e => noLC e && mE nm N a sc e
  | .sp .sset [a], sc, .Call (.Name x _) [.Call (.Name y _) [e] [] _] [] _ => decide (x = "sorted") && glB sc x && decide (y = "set") && glB sc y && mE nm N a sc e
  | .sp .rev [a], sc, .Subscript e (.Slice none none (some (.UnaryOp .USub (.Constant (.int i) _ _) _)) _) _ => decide (i = 1) && mE nm N a sc e
  | .bix .sorted (.itm a), sc, .Call (.Name x _) [.Call (.Attribute e at_ ap) [] [] cp] [] _ => decide (x = "sorted") && glB sc x && decide (at_ = "items") && (ap.endLine == cp.line) && recvB e && mE nm N a sc e
  | .bix .list (.itm a), sc, .Call (.Name x _) [.Call (.Attribute e at_ ap) [] [] cp] [] _ => decide (x = "list") && glB sc x && decide (at_ = "items") && (ap.endLine == cp.line) && recvB e && mE nm N a sc e
  | .bix .list (.vls a), sc, .Call (.Name x _) [.Call (.Attribute e at_ ap) [] [] cp] [] _ => decide (x = "list") && glB sc x && decide (at_ = "values") && (ap.endLine == cp.line) && recvB e && mE nm N a sc e
  | .bix .list (.zp [a, b]), sc, .Call (.Name x _) [.Call (.Name y _) [e, e'] [] _] [] _ => decide (x = "list") && glB sc x && decide (y = "zip") && glB sc y && mE nm N a sc e && mE nm N b sc e'
  | .bix .list (.rng [a]), sc, .Call (.Name x _) [.Call (.Name y _) [e] [] _] [] _ => decide (x = "list") && glB sc x && decide (y = "range") && glB sc y && mE nm N a sc e
  | _, _, _ => false
def mEs (nm : Nm) (N : List Str) : List Ex → Scope → List Expr → Bool
  | [], _, [] => true
  | x :: xs, sc, e :: es => mE nm N x sc e && mEs nm N xs sc es
  | _, _, _ => false
def mP (nm : Nm) (N : List Str) : List Ex → Scope → List (Option Expr) → List Expr → Bool
  | [], _, [], [] => true
  | x :: y :: xs, sc, some k :: ks, v :: vs => mE nm N x sc k && mE nm N y sc v && mP nm N xs sc ks vs
  | _, _, _, _ => false
def mO (nm : Nm) (N : List Str) : Option Ex → Scope → Option Expr → Bool
  | none, _, none => true
  | some x, sc, some e => mE nm N x sc e
  | _, _, _ => false
def mI (nm : Nm) (N : List Str) : Ix → Scope → Expr → Expr → Bool
  | .e a, sc, _, e => mE nm N a sc e
  | .rng as, sc, _, .Call (.Name x _) vs [] _ => decide (x = "range") && glB sc x && !vs.isEmpty && mEs nm N as sc vs
  | .enm a, sc, .Tuple _ _ _, .Call (.Name x _) [e] [] _ => decide (x = "enumerate") && glB sc x && mE nm N a sc e
  | .zp [a, b], sc, .Tuple _ _ _, .Call (.Name x _) [e, e'] [] _ => decide (x = "zip") && glB sc x && mE nm N a sc e && mE nm N b sc e'
  | .zp [a, b], sc, .Name _ _, .Call (.Name x _) [e, e'] [] _ => decide (x = "zip") && glB sc x && mE nm N a sc e && mE nm N b sc e'
  | _, _, _, _ => false
end
end Rm
set_option Elab.async false
set_option linter.all false
set_option autoImplicit false
set_option maxRecDepth 100000
/-! Soundness 5: expressions. -/
namespace Rm
open PySem PySem.Spec PyProof.Rows L2
def bnames : List Str := ["len", "all", "any", "sum", "tuple", "list", "sorted", "repr", "min", "max", "abs", "str", "int", "dict", "set", "bool", "isinstance", "range", "enumerate", "zip"]
def spF (c : Tx) (n f : Nat) : Sp := fun vs H Q _ => ∃ ds h r, RepDs c r H ds vs ∧ (∀ d ∈ ds, isOwn d = false) ∧ HRel c r h H ∧ Out c (rD c) r H (callF c.P n f ds h) Q
structure Txt (c : Tx) : Prop where
  bl : ∀ x ∈ bnames, c.mg x = none
  gl : ∀ k t, c.P.gl k = some t → ∃ u v, c.mg (c.nm.gn k) = some u ∧ RelV v u ∧ ∀ r H, RepT c r H t v
/-- a dict of the module, its keys texts -/
structure GdOk (c : Tx) (w : World) (a : Addr) (kvs : List (T × T)) : Prop where
  dct : ∃ es n, c.K.lookup a = some ⟨.type "dict", none, .dict es n, #[]⟩ ∧ PySem.W.KeysLit w.params es.toList
  low : (a == sysModules) = false
  at_ : ∀ z : List Nat, (∃ t u v, lookT (.str z) kvs = some t ∧ PySem.W.nsIn c.K a ⟨z.toArray⟩ = some (some u) ∧ RelV v u ∧ ∀ r H, RepT c r H t v) ∨ (lookT (.str z) kvs = none ∧ PySem.W.nsIn c.K a ⟨z.toArray⟩ = some none)
structure Cm (c : Tx) (n : Nat) (N : List Str) (sc : Scope) (X : Cx) : Prop where
  eK : X.K = c.K
  emg : X.mg = c.mg
  eN : X.N = N
  esc : X.env.scope = sc
  calm : X.calm = true
  room : Room n X.A
  grd : X.A.guards = some []
  xe : X.xe = fun _ _ => False
  nd : N.Nodup
  fns : ∀ f d, c.P.df f = some d → ∃ a fd ps, c.mg (c.nm.fn f) = some (.ref a) ∧ PySem.W.keepIn c.K (.ref a) = true ∧ Binds c.K fd ps [] ∧ FnG X.prog X.w c.K c.mg X.base n a fd ps (spF c n f)
  tx : Txt c
  gds : ∀ k kvs, c.P.gd k = some kvs → ∃ a, c.mg (c.nm.gn k) = some (.ref a) ∧ GdOk c X.w a kvs
section
variable (c : Tx) (n : Nat)
def tEx (x : Ex) : TE := fun sv H Q => ∃ s h r, SRel c r H s sv ∧ HRel c r h H ∧ Out c (rD c) r H (evE c.P (callF c.P n) x s h) Q
def tTx (x : Ex) : TT := fun sv H Q => ∃ s h r, SRel c r H s sv ∧ HRel c r h H ∧ Out c rB r H ((evE c.P (callF c.P n) x s h).bd truD) Q
def rDs : Hp → List Addr → Hp → List D → List V → Prop := fun _ r' H' ds vs => RepDs c r' H' ds vs
def rAs : Hp → List Addr → Hp → List D → List V → Prop := fun _ r' H' ds vs => RepDs c r' H' ds vs ∧ ∀ d ∈ ds, isOwn d = false
def tLx (es : List Ex) : TA := fun sv H Q => ∃ s h r, SRel c r H s sv ∧ HRel c r h H ∧ Out c (rDs c) r H (evL c.P (callF c.P n) es s h) Q
def tAx (es : List Ex) : TA := fun sv H Q => ∃ s h r, SRel c r H s sv ∧ HRel c r h H ∧ Out c (rAs c) r H (evA c.P (callF c.P n) es s h) Q
def tTsx (es : List Ex) : TA := fun sv H Q => ∃ s h r, SRel c r H s sv ∧ HRel c r h H ∧ Out c (rTs c) r H (evT c.P (callF c.P n) es s h) Q
def okHead : Expr → Bool
  | .Starred _ _ => false | .Set _ _ _ => false | .Slice _ _ _ _ => false | _ => true
structure OkE (X : Cx) (x : Ex) (e : Expr) : Prop where
  pe : PE X e (tEx c n x)
  pt : PT X e (tTx c n x)
  hd : okHead e = true
inductive All2 (X : Cx) : List Ex → List Expr → Prop
  | nil : All2 X [] []
  | cons {x : Ex} {e : Expr} {xs : List Ex} {es : List Expr} : OkE c n X x e → All2 X xs es → All2 X (x :: xs) (e :: es)
end
section
variable {c : Tx} {n : Nat} {X : Cx} {r r1 : List Addr} {H H1 : Hp} {h : LH} {s : Sg} {sv : L2.St} {x : Ex} {e : Expr}
theorem hd_star (h : okHead e = true) (es : List Expr) (env : Env) : starEach (e :: es) env = (false, eval e env) :: starEach es env := by
  cases e <;> first | rfl | cases h
theorem hd_mark (h : okHead e = true) (op : CmpOp) : behindInMarks op e = false := by
  cases e <;> first | rfl | cases h
theorem hd_ix (h : okHead e = true) : PlainIx e := by
  intro o i
  cases e <;> first | rfl | cases h
theorem hd_fold (h : okHead e = true) (env : Env) (v : Value) : foldedSetIterable e env v = pure v := by
  cases e <;> first | rfl | cases h
theorem PE.imp' {t t' : TE} (h : PE X e t) (f : ∀ sv H Q, t' sv H Q → t sv H Q) : PE X e t' := ⟨fun pins s σ H Q I z => h.run pins s σ H Q I (f σ H Q z)⟩
theorem PT.imp' {t t' : TT} (h : PT X e t) (f : ∀ sv H Q, t' sv H Q → t sv H Q) : PT X e t' := ⟨fun pins s σ H Q I z => h.run pins s σ H Q I (f σ H Q z)⟩
theorem PA.imp' {es : List Expr} {t t' : TA} (h : PA X es t) (f : ∀ sv H Q, t' sv H Q → t sv H Q) : PA X es t' := ⟨fun pos pins s σ H Q I z => h.run pos pins s σ H Q I (f σ H Q z)⟩
theorem Out.weak {α β : Type} {rep : Hp → List Addr → Hp → α → β → Prop} {res : R α} {Q Q' : β → Hp → Prop} (o : Out c rep r H res Q) (f : ∀ b H', Q b H' → Q' b H') : Out c rep r H res Q' := by
  cases res with
  | ok a h' => exact fun b r' H' z hh ee => f b H' (o b r' H' z hh ee)
  | exc x h' => exact o
  | bad => exact o
theorem tEx.weak {Q Q' : VK} (z : tEx c n x sv H Q) (f : ∀ v H', Q v H' → Q' v H') : tEx c n x sv H Q' := by
  obtain ⟨s, h, r, a, b, o⟩ := z
  exact ⟨s, h, r, a, b, o.weak f⟩
theorem tTx.weak {Q Q' : Bool → Hp → Prop} (z : tTx c n x sv H Q) (f : ∀ v H', Q v H' → Q' v H') : tTx c n x sv H Q' := by
  obtain ⟨s, h, r, a, b, o⟩ := z
  exact ⟨s, h, r, a, b, o.weak f⟩
theorem tLx.weak {xs : List Ex} {Q Q' : List V → Hp → Prop} (z : tLx c n xs sv H Q) (f : ∀ v H', Q v H' → Q' v H') : tLx c n xs sv H Q' := by
  obtain ⟨s, h, r, a, b, o⟩ := z
  exact ⟨s, h, r, a, b, o.weak f⟩
theorem tAx.weak {xs : List Ex} {Q Q' : List V → Hp → Prop} (z : tAx c n xs sv H Q) (f : ∀ v H', Q v H' → Q' v H') : tAx c n xs sv H Q' := by
  obtain ⟨s, h, r, a, b, o⟩ := z
  exact ⟨s, h, r, a, b, o.weak f⟩
theorem tTsx.weak {xs : List Ex} {Q Q' : List V → Hp → Prop} (z : tTsx c n xs sv H Q) (f : ∀ v H', Q v H' → Q' v H') : tTsx c n xs sv H Q' := by
  obtain ⟨s, h, r, a, b, o⟩ := z
  exact ⟨s, h, r, a, b, o.weak f⟩
/-- a relation of results that a later start weakens -/
def Bk (c : Tx) {α β : Type} (rep : Hp → List Addr → Hp → α → β → Prop) : Prop := ∀ (r : List Addr) (H : Hp) (r1 : List Addr) (H1 : Hp), Ext c r H r1 H1 → ∀ r' H' a b, rep H1 r' H' a b → rep H r' H' a b
theorem bk_D : Bk c (rD c) := fun _ _ _ _ e _ _ _ _ z => ⟨z.1, z.2.back e⟩
theorem bk_B : Bk c rB := fun _ _ _ _ _ _ _ _ _ z => z
theorem bk_T : Bk c (rT c) := fun _ _ _ _ _ _ _ _ _ z => z
theorem bk_Ts : Bk c (rTs c) := fun _ _ _ _ _ _ _ _ _ z => z
theorem bk_Ds : Bk c (rDs c) := fun _ _ _ _ _ _ _ _ _ z => z
theorem bk_As : Bk c (rAs c) := fun _ _ _ _ _ _ _ _ _ z => z
theorem Out.mv {α β : Type} {rep : Hp → List Addr → Hp → α → β → Prop} (bk : Bk c rep) {res : R α} {Q : β → Hp → Prop} (o : Out c rep r H res Q) (e : Ext c r H r1 H1) : Out c rep r1 H1 res Q := Out.mono e (bk _ _ _ _ e) o
/-- one part, then the rest -/
theorem Out.step {α β α' β' : Type} {rep : Hp → List Addr → Hp → α → β → Prop} {rep' : Hp → List Addr → Hp → α' → β' → Prop} {res : R α} {f : α → LH → R α'} {Q : β' → Hp → Prop} (SR : SRel c r H s sv) (o : Out c rep' r H (res.bd f) Q) :
    Out c rep r H res (fun b H1 => ∃ a h1 r1, rep H r1 H1 a b ∧ HRel c r1 h1 H1 ∧ Ext c r H r1 H1 ∧ SRel c r1 H1 s sv ∧ Out c rep' r H (f a h1) Q) := by
  cases res with
  | ok a h1 => exact fun b r1 H1 z hh ee => ⟨a, h1, r1, z, hh, ee, SR.ext ee, o⟩
  | exc x h' => exact o
  | bad => exact o
theorem tEx_bd {α' β' : Type} {rep' : Hp → List Addr → Hp → α' → β' → Prop} {f : D → LH → R α'} {Q : β' → Hp → Prop} (SR : SRel c r H s sv) (hh : HRel c r h H) (o : Out c rep' r H ((evE c.P (callF c.P n) x s h).bd f) Q) {Q' : VK}
    (k : ∀ v H1 d h1 r1, RepD c r1 H1 d v → Frs H d v → HRel c r1 h1 H1 → Ext c r H r1 H1 → SRel c r1 H1 s sv → Out c rep' r H (f d h1) Q → Q' v H1) : tEx c n x sv H Q' :=
  ⟨s, h, r, SR, hh, (Out.step (rep := rD c) SR o).weak fun v H1 ⟨d, h1, r1, z, hh1, ee, SR1, o1⟩ => k v H1 d h1 r1 z.1 z.2 hh1 ee SR1 o1⟩
theorem bd_assoc {α β γ : Type} (r : R α) (f : α → LH → R β) (g : β → LH → R γ) : (r.bd f).bd g = r.bd fun a h => (f a h).bd g := by
  cases r <;> rfl
theorem tTx_bd {α' β' : Type} {rep' : Hp → List Addr → Hp → α' → β' → Prop} {f : Bool → LH → R α'} {Q : β' → Hp → Prop} (SR : SRel c r H s sv) (hh : HRel c r h H) (o : Out c rep' r H ((evE c.P (callF c.P n) x s h).bd fun d h1 => (truD d h1).bd f) Q) {Q' : Bool → Hp → Prop}
    (k : ∀ b H1 h1 r1, HRel c r1 h1 H1 → Ext c r H r1 H1 → SRel c r1 H1 s sv → Out c rep' r H (f b h1) Q → Q' b H1) : tTx c n x sv H Q' := by
  rw [← bd_assoc] at o
  exact ⟨s, h, r, SR, hh, (Out.step (rep := rB) SR o).weak fun v H1 ⟨d, h1, r1, z, hh1, ee, SR1, o1⟩ => by
    obtain rfl := z
    exact k _ H1 h1 r1 hh1 ee SR1 o1⟩
/-! ### argument lists -/
theorem RepO.some {a : Addr} {o : O} (z : RepO c r H a o) : ∃ u, H a = some u := by
  cases o with
  | lst xs => obtain ⟨vs, z, _⟩ := z; exact ⟨_, z⟩
  | dct k kvs => exact RepDc.some z
/-- an owned thing comes to the logical heap -/
theorem HRel.push {a : Addr} {o : O} (hh : HRel c r h H) (n : a ∉ r) (z : RepO c (r ++ [a]) H a o) (up : ∀ (m : Nat) (b : Addr) (ob : O), RepO c r H b ob → RepO c (r ++ [a]) H b ob) : HRel c (r ++ [a]) (h ++ [o]) H := by
  refine ⟨by simp [hh.len], ?_, fun m b ob e1 e2 => ?_⟩
  · rw [List.nodup_append]
    refine ⟨hh.nd, by simp, fun x hx y hy => ?_⟩
    simp at hy
    subst hy
    exact fun e => n (e ▸ hx)
  · by_cases hm : m < r.length
    · rw [List.getElem?_append_left hm] at e1
      rw [List.getElem?_append_left (by rw [← hh.len]; exact hm)] at e2
      exact up m b ob (hh.ob m b ob e1 e2)
    · have hm' : r.length ≤ m := Nat.le_of_not_lt hm
      rw [List.getElem?_append_right hm'] at e1
      rw [List.getElem?_append_right (by rw [← hh.len]; exact hm'), ← hh.len] at e2
      have l := (List.getElem?_eq_some_iff.mp e1).1
      simp at l
      have e0 : m - r.length = 0 := by omega
      rw [e0] at e1 e2
      simp at e1 e2
      subst e1 e2
      exact z
mutual
theorem RepT.more (q : List Addr) : ∀ (t : T) (v : V), RepT c r H t v → RepT c (r ++ q) H t v
  | .non, v, h => h
  | .bl _, v, h => h
  | .int _, v, h => h
  | .str _, v, h => h
  | .tup xs, v, h => by
    obtain ⟨a, vs, e1, h1, h2⟩ := h
    exact ⟨a, vs, e1, h1, RepTs.more q xs vs h2⟩
  | .ref n, v, h => by
    obtain ⟨a, h1, h2⟩ := h
    exact ⟨a, by rw [List.getElem?_append_left (List.getElem?_eq_some_iff.mp h1).1]; exact h1, h2⟩
  | .fn f, v, h => h
  | .fl xs, v, h => by
    obtain ⟨a, vs, e1, h1, h2⟩ := h
    exact ⟨a, vs, e1, h1, RepTs.more q xs vs h2⟩
theorem RepTs.more (q : List Addr) : ∀ (ts : List T) (vs : List V), RepTs c r H ts vs → RepTs c (r ++ q) H ts vs
  | [], vs, h => h
  | x :: xs, vs, h => by
    obtain ⟨v, ws, e1, h1, h2⟩ := h
    exact ⟨v, ws, e1, RepT.more q x v h1, RepTs.more q xs ws h2⟩
end
theorem RepK.more (q : List Addr) : ∀ (ts : List (T × T)) (vs : List (Key × V)), RepK c r H ts vs → RepK c (r ++ q) H ts vs
  | [], vs, h => h
  | x :: xs, vs, h => by
    obtain ⟨k, v, ws, e1, h0, h1, h2, h3⟩ := h
    exact ⟨k, v, ws, e1, h0, RepT.more q _ _ h1, RepT.more q _ _ h2, RepK.more q xs ws h3⟩
theorem RepKT.more (q : List Addr) : ∀ (ts : List (T × T)) (vs : List (List Key × V)), RepKT c r H ts vs → RepKT c (r ++ q) H ts vs
  | [], vs, h => h
  | x :: xs, vs, h => by
    obtain ⟨k, v, ws, e1, h0, h1, h2, h3⟩ := h
    exact ⟨k, v, ws, e1, h0, fun z hz => RepT.more q _ _ (h1 z hz), RepT.more q _ _ h2, RepKT.more q xs ws h3⟩
theorem RepO.more (q : List Addr) {a : Addr} {o : O} (z : RepO c r H a o) : RepO c (r ++ q) H a o := by
  cases o with
  | lst xs => obtain ⟨vs, z1, z2⟩ := z; exact ⟨vs, z1, RepTs.more q _ _ z2⟩
  | dct b kvs =>
    cases b with
    | true => obtain ⟨kv, z1, z2⟩ := z; exact ⟨kv, z1, RepKT.more q _ _ z2⟩
    | false => obtain ⟨kv, z1, z2⟩ := z; exact ⟨kv, z1, RepK.more q _ _ z2⟩
theorem Ext.push {r0 : List Addr} {H0 : Hp} {a : Addr} (e : Ext c r0 H0 r H) (n : H0 a = none) : Ext c r0 H0 (r ++ [a]) H := by
  obtain ⟨q, e1, z⟩ := e.more
  refine ⟨⟨q ++ [a], by rw [e1, List.append_assoc], fun b hb => ?_⟩, e.keep, e.tup, e.tp, e.frz, e.dom⟩
  rcases List.mem_append.mp hb with hb | hb
  · exact z b hb
  · simp at hb; subst hb; exact n
theorem fix_step {α' β' : Type} {rep' : Hp → List Addr → Hp → α' → β' → Prop} {f : T → LH → R α'} {Q : β' → Hp → Prop} {r0 : List Addr} {H0 : Hp} {d : D} {v : V} (ee : Ext c r0 H0 r H) (h1 : RepD c r H d v) (fr : Frs H0 d v) (hh : HRel c r h H)
    (o : Out c rep' r0 H0 ((fix d h).bd f) Q) : ∃ t h' r', RepT c r' H t v ∧ HRel c r' h' H ∧ Ext c r0 H0 r' H ∧ Out c rep' r0 H0 (f t h') Q := by
  cases d with
  | s t => exact ⟨t, h, r, h1, hh, ee, o⟩
  | vw xs => exact o.elim
  | dv k kvs => exact o.elim
  | tl xs =>
    obtain ⟨a, vs, rfl, z1, z2, na⟩ := h1
    refine ⟨.ref h.length, (h ++ [O.lst xs] : LH), r ++ [a], ⟨a, ?_, rfl⟩, hh.push (o := .lst xs) na ⟨vs, z1, RepTs.more [a] _ _ z2⟩ fun _ _ _ z => RepO.more [a] z, ee.push (fr rfl a rfl), o⟩
    rw [← hh.len, List.getElem?_append_right (Nat.le_refl _)]
    simp
  | dt k kvs =>
    obtain ⟨a, rfl, z1, na⟩ := h1
    refine ⟨.ref h.length, (h ++ [O.dct k kvs] : LH), r ++ [a], ⟨a, ?_, rfl⟩, hh.push (o := .dct k kvs) na (RepO.more [a] (o := .dct k kvs) z1) fun _ _ _ z => RepO.more [a] z, ee.push (fr rfl a rfl), o⟩
    rw [← hh.len, List.getElem?_append_right (Nat.le_refl _)]
    simp
/-- lists of expressions -/
theorem pa_L : ∀ {xs : List Ex} {es : List Expr}, All2 c n X xs es → PA X es (tLx c n xs)
  | _, _, .nil => PA.imp' pa_nil fun sv H Q ⟨s, h, r, SR, hh, o⟩ => o [] r H rfl hh Ext.refl
  | _, _, .cons (x := x) (e := e) (xs := xs) (es := es) a b => PA.imp' (pa_cons a.pe (pa_L b) (hd_star a.hd _ _)) fun sv H Q ⟨s, h, r, SR, hh, o⟩ => by
    simp only [evL] at o
    refine tEx_bd SR hh o fun v H1 d h1 r1 z fr hh1 ee SR1 o1 => ?_
    refine ⟨s, h1, r1, SR1, hh1, (Out.step (rep := rDs c) SR1 (o1.mv bk_Ds ee)).weak fun vs H2 ⟨ds, h2, r2, z2, hh2, e2, SR2, o2⟩ => ?_⟩
    exact o2 (v :: vs) r2 H2 ⟨v, vs, rfl, z.ext e2, z2⟩ hh2 e2
theorem pa_A : ∀ {xs : List Ex} {es : List Expr}, All2 c n X xs es → PA X es (tAx c n xs)
  | _, _, .nil => PA.imp' pa_nil fun sv H Q ⟨s, h, r, SR, hh, o⟩ => o [] r H ⟨rfl, by simp⟩ hh Ext.refl
  | _, _, .cons (x := x) (e := e) (xs := xs) (es := es) a b => PA.imp' (pa_cons a.pe (pa_A b) (hd_star a.hd _ _)) fun sv H Q ⟨s, h, r, SR, hh, o⟩ => by
    simp only [evA] at o
    refine tEx_bd SR hh o fun v H1 d h1 r1 z fr hh1 ee SR1 o1 => ?_
    refine ⟨s, h1, r1, SR1, hh1, (Out.step (rep := rAs c) SR1 (o1.mv bk_As ee)).weak fun vs H2 ⟨ds, h2, r2, z2, hh2, e2, SR2, o2⟩ => ?_⟩
    refine o2 (v :: vs) r2 H2 ⟨⟨v, vs, rfl, ?_, z2.1⟩, fun y hy => ?_⟩ hh2 e2
    · have z' := z.ext e2
      cases d <;> exact z'
    · rcases List.mem_cons.mp hy with hy | hy
      · subst hy; cases d <;> rfl
      · exact z2.2 y hy
theorem pa_T : ∀ {xs : List Ex} {es : List Expr}, All2 c n X xs es → PA X es (tTsx c n xs)
  | _, _, .nil => PA.imp' pa_nil fun sv H Q ⟨s, h, r, SR, hh, o⟩ => o [] r H rfl hh Ext.refl
  | _, _, .cons (x := x) (e := e) (xs := xs) (es := es) a b => PA.imp' (pa_cons a.pe (pa_T b) (hd_star a.hd _ _)) fun sv H Q ⟨s, h, r, SR, hh, o⟩ => by
    simp only [evT] at o
    refine tEx_bd SR hh o fun v H1 d h1 r1 z fr hh1 ee SR1 o1 => ?_
    obtain ⟨t, h1', r1', zt, hh1', ee', o2⟩ := fix_step ee z fr hh1 o1
    refine ⟨s, h1', r1', SR.ext ee', hh1', (Out.step (rep := rTs c) (SR.ext ee') (o2.mv bk_Ts ee')).weak fun vs H2 ⟨ds, h2, r2, z2, hh2, e2, SR2, o3⟩ => ?_⟩
    exact o3 (v :: vs) r2 H2 ⟨v, vs, rfl, RepT.ext e2 _ _ zt, z2⟩ hh2 e2
end
end Rm
set_option Elab.async false
set_option linter.all false
set_option autoImplicit false
set_option maxRecDepth 100000
/-! Soundness 6: what is walked. -/
namespace Rm
open PySem PySem.Spec PyProof.Rows L2
/-- as Ext, where the places of W may have changed, too -/
structure ExtW (c : Tx) (W : Addr → Prop) (r : List Addr) (H : Hp) (r' : List Addr) (H' : Hp) : Prop where
  more : ∃ q, r' = r ++ q ∧ ∀ a ∈ q, H a = none
  keep : ∀ a o, H a = some o → a ∉ r → ¬ W a → H' a = some o
  tup : ∀ a vs, SqT c.K H a vs → SqT c.K H' a vs
  tp : ∀ a vs, H a = some (.tup vs) → H' a = some (.tup vs)
  frz : ∀ a o u, H a = some (.frz o u) → H' a = some (.frz o u)
  dom : ∀ a, H' a = none → H a = none
section
variable {c : Tx} {n : Nat} {X : Cx} {r r' r1 : List Addr} {H H' H1 : Hp} {h : LH} {W : Addr → Prop}
theorem Ext.w (e : Ext c r H r' H') (W : Addr → Prop) : ExtW c W r H r' H' := ⟨e.more, fun a o q n _ => e.keep a o q n, e.tup, e.tp, e.frz, e.dom⟩
theorem ExtW.ext (e : ExtW c (fun _ => False) r H r' H') : Ext c r H r' H' := ⟨e.more, fun a o q n => e.keep a o q n (fun z => z), e.tup, e.tp, e.frz, e.dom⟩
theorem ExtW.trans {r2 : List Addr} {H2 : Hp} (a : ExtW c W r H r1 H1) (b : ExtW c W r1 H1 r2 H2) : ExtW c W r H r2 H2 := by
  obtain ⟨q, e, n⟩ := a.more
  obtain ⟨q', e', n'⟩ := b.more
  refine ⟨⟨q ++ q', by rw [e', e, List.append_assoc], fun x hx => ?_⟩, fun x o h hx hw => ?_, fun x vs h => b.tup x vs (a.tup x vs h), fun x vs h => b.tp x vs (a.tp x vs h), fun x o u h => b.frz x o u (a.frz x o u h), fun x h => a.dom x (b.dom x h)⟩
  · rcases List.mem_append.mp hx with z | z
    · exact n x z
    · exact a.dom x (n' x z)
  · refine b.keep x o (a.keep x o h hx hw) (fun z => ?_) hw
    rw [e] at z
    rcases List.mem_append.mp z with z | z
    · exact hx z
    · rw [n x z] at h; cases h
theorem ExtW.at (e : ExtW c W r H r' H') {n : Nat} {a : Addr} (h : r[n]? = some a) : r'[n]? = some a := by
  obtain ⟨q, e, _⟩ := e.more
  rw [e, List.getElem?_append_left (List.getElem?_eq_some_iff.mp h).1]
  exact h
theorem ExtW.nin (e : ExtW c W r H r' H') {a : Addr} {o : HO} (h : H a = some o) (n : a ∉ r) : a ∉ r' := by
  obtain ⟨q, e, z⟩ := e.more
  rw [e]
  intro m
  rcases List.mem_append.mp m with m | m
  · exact n m
  · rw [z a m] at h; cases h
theorem Frl.extW {a : Addr} {vs : List V} (e : ExtW c W r H r' H') (h : Frl c.K H a vs) : Frl c.K H' a vs := by
  rcases h with ⟨o, h⟩ | h
  · exact .inl ⟨o, e.frz _ _ _ h⟩
  · exact .inr h
mutual
theorem RepT.extW (e : ExtW c W r H r' H') : ∀ (t : T) (v : V), RepT c r H t v → RepT c r' H' t v
  | .non, v, h => h
  | .bl _, v, h => h
  | .int _, v, h => h
  | .str _, v, h => h
  | .tup xs, v, h => by
    obtain ⟨a, vs, e1, h1, h2⟩ := h
    exact ⟨a, vs, e1, ⟨e.tup a vs h1.1, fun m => e.tp a vs (h1.2 m)⟩, RepTs.extW e xs vs h2⟩
  | .ref n, v, h => by
    obtain ⟨a, h1, h2⟩ := h
    exact ⟨a, e.at h1, h2⟩
  | .fn f, v, h => h
  | .fl xs, v, h => by
    obtain ⟨a, vs, e1, h1, h2⟩ := h
    exact ⟨a, vs, e1, h1.extW e, RepTs.extW e xs vs h2⟩
theorem RepTs.extW (e : ExtW c W r H r' H') : ∀ (ts : List T) (vs : List V), RepTs c r H ts vs → RepTs c r' H' ts vs
  | [], vs, h => h
  | x :: xs, vs, h => by
    obtain ⟨v, ws, e1, h1, h2⟩ := h
    exact ⟨v, ws, e1, RepT.extW e x v h1, RepTs.extW e xs ws h2⟩
end
/-- an iterator over the items p.1: the places of p.2 must stay in the logical heap, those of tmp in the heap -/
structure Gd (c : Tx) (xs : List T) (gs : List Nat) (J : It) (r0 : List Addr) (h0 : LH) (H0 : Hp) (tmp : Addr → Prop) (G : List Addr → LH → Hp → Prop) : Prop where
  goes : ∀ i r h H, i < xs.length → G r h H → J.go i H
  stops : ∀ r h H, G r h H → J.stop xs.length H
  yields : ∀ i r h H v H', i < xs.length → G r h H → HRel c r h H → J.yld i H v H' → ∃ t, xs[i]? = some t ∧ Ext c r H r H' ∧ HRel c r h H' ∧ RepT c r H' t v
  keep : ∀ W r h H, (∀ a, tmp a → ¬ W a) → ExtW c W r0 H0 r H → HRel c r h H → stay gs h0 h = true → G r h H
/-- a thing that is walked by itself: a list, a tuple -/
theorem gd_lst {a : Addr} {vs : List V} {xs : List T} {r0 : List Addr} {h0 : LH} {H0 : Hp} (hS : H0 a = some (.lst vs)) (na : a ∉ r0) (z : RepTs c r0 H0 xs vs) :
    Gd c xs [] (Itl c.K a) r0 h0 H0 (fun b => b = a) (fun r _ H => H a = some (.lst vs) ∧ RepTs c r H xs vs) where
  goes := fun i r h H hi ⟨q, w⟩ => by
    have l := w.length
    exact ⟨vs, vs[i]'(by omega), .inl (.inl q), by simp [show i < vs.length by omega]⟩
  stops := fun r h H ⟨q, w⟩ => ⟨vs, .inl (.inl q), by rw [w.length]; exact Nat.le_refl _⟩
  yields := fun i r h H v H' hi ⟨q, w⟩ hh ⟨e1, e2⟩ => by
    subst e1
    have l := w.length
    obtain ⟨t, ht⟩ : ∃ t, xs[i]? = some t := ⟨xs[i], by simp [hi]⟩
    obtain ⟨v', e3, e4⟩ := w.get ht
    have := e2 vs (.inl (.inl q))
    rw [e3] at this
    cases this
    exact ⟨t, ht, Ext.refl, hh, e4⟩
  keep := fun W r h H hW e hh _ => ⟨e.keep a _ hS na (hW a rfl), RepTs.extW e _ _ z⟩
theorem gd_fl {a : Addr} {vs : List V} {xs : List T} {r0 : List Addr} {h0 : LH} {H0 : Hp} (hS : Frl c.K H0 a vs) (z : RepTs c r0 H0 xs vs) (tmp : Addr → Prop) :
    Gd c xs [] (Itl c.K a) r0 h0 H0 tmp (fun r _ H => Frl c.K H a vs ∧ RepTs c r H xs vs) where
  goes := fun i r h H hi ⟨q, w⟩ => by
    have l := w.length
    exact ⟨vs, vs[i]'(by omega), q.sq, by simp [show i < vs.length by omega]⟩
  stops := fun r h H ⟨q, w⟩ => ⟨vs, q.sq, by rw [w.length]; exact Nat.le_refl _⟩
  yields := fun i r h H v H' hi ⟨q, w⟩ hh ⟨e1, e2⟩ => by
    subst e1
    obtain ⟨t, ht⟩ : ∃ t, xs[i]? = some t := ⟨xs[i], by simp [hi]⟩
    obtain ⟨v', e3, e4⟩ := w.get ht
    have := e2 vs q.sq
    rw [e3] at this
    cases this
    exact ⟨t, ht, Ext.refl, hh, e4⟩
  keep := fun W r h H hW e hh _ => ⟨hS.extW e, RepTs.extW e _ _ z⟩
theorem gd_ref {a : Addr} {m : Nat} {xs : List T} {r0 : List Addr} {h0 : LH} {H0 : Hp} (e0 : r0[m]? = some a) (e1 : h0[m]? = some (.lst xs)) (tmp : Addr → Prop) :
    Gd c xs [m] (Itl c.K a) r0 h0 H0 tmp (fun r _ H => ∃ vs, H a = some (.lst vs) ∧ RepTs c r H xs vs) where
  goes := fun i r h H hi ⟨vs, q, w⟩ => by
    have l := w.length
    exact ⟨vs, vs[i]'(by omega), .inl (.inl q), by simp [show i < vs.length by omega]⟩
  stops := fun r h H ⟨vs, q, w⟩ => ⟨vs, .inl (.inl q), by rw [w.length]; exact Nat.le_refl _⟩
  yields := fun i r h H v H' hi ⟨vs, q, w⟩ hh ⟨e1, e2⟩ => by
    subst e1
    obtain ⟨t, ht⟩ : ∃ t, xs[i]? = some t := ⟨xs[i], by simp [hi]⟩
    obtain ⟨v', e3, e4⟩ := w.get ht
    have := e2 vs (.inl (.inl q))
    rw [e3] at this
    cases this
    exact ⟨t, ht, Ext.refl, hh, e4⟩
  keep := fun W r h H hW e hh st => by
    have st' : h[m]? = h0[m]? := by simpa [stay] using st
    exact hh.ob m a (.lst xs) (e.at e0) (st'.trans e1)
theorem gd_tup {a : Addr} {vs : List V} {xs : List T} {r0 : List Addr} {h0 : LH} {H0 : Hp} (hS : SqT c.K H0 a vs) (z : RepTs c r0 H0 xs vs) (tmp : Addr → Prop) :
    Gd c xs [] (Itt c.K a) r0 h0 H0 tmp (fun r _ H => SqT c.K H a vs ∧ RepTs c r H xs vs) where
  goes := fun i r h H hi ⟨q, w⟩ => by
    have l := w.length
    exact ⟨vs, vs[i]'(by omega), q, by simp [show i < vs.length by omega]⟩
  stops := fun r h H ⟨q, w⟩ => ⟨vs, q, by rw [w.length]; exact Nat.le_refl _⟩
  yields := fun i r h H v H' hi ⟨q, w⟩ hh ⟨e1, e2⟩ => by
    subst e1
    obtain ⟨t, ht⟩ : ∃ t, xs[i]? = some t := ⟨xs[i], by simp [hi]⟩
    obtain ⟨v', e3, e4⟩ := w.get ht
    have := e2 vs q
    rw [e3] at this
    cases this
    exact ⟨t, ht, Ext.refl, hh, e4⟩
  keep := fun W r h H hW e hh _ => ⟨e.tup _ _ hS, RepTs.extW e _ _ z⟩
theorem gd_str {cs : List Nat} {r0 : List Addr} {h0 : LH} {H0 : Hp} (hl : cs.length ≤ sizeLine) (tmp : Addr → Prop) :
    Gd c (cs.map fun ch => T.str [ch]) [] (Its ⟨cs.toArray⟩) r0 h0 H0 tmp (fun _ _ _ => True) where
  goes := fun i r h H hi _ => by
    show i < cs.toArray.size
    simpa using hi
  stops := fun r h H _ => by
    show cs.toArray.size ≤ _
    simp
  yields := fun i r h H v H' hi _ hh ⟨e1, ch, e2, e3⟩ => by
    subst e1
    have e2' : cs[i]? = some ch := by simpa using e2
    refine ⟨.str [ch], by rw [List.getElem?_map, e2']; rfl, Ext.refl, hh, e3, ?_⟩
    show 1 ≤ sizeLine
    decide
  keep := fun _ _ _ _ _ _ _ _ => True.intro
theorem gd_rng {lo : Int} {m : Nat} {r0 : List Addr} {h0 : LH} {H0 : Hp} (tmp : Addr → Prop) : Gd c (rngT lo m) [] (Itr lo m) r0 h0 H0 tmp (fun _ _ _ => True) where
  goes := fun i r h H hi _ => by
    show i < m
    simpa [rngT] using hi
  stops := fun r h H _ => by
    show m ≤ _
    simp [rngT]
  yields := fun i r h H v H' hi _ hh ⟨e1, e2⟩ => by
    subst e1
    have hi' : i < m := by simpa [rngT] using hi
    refine ⟨.int (lo + i), ?_, Ext.refl, hh, e2⟩
    unfold rngT
    rw [List.getElem?_map, List.getElem?_range hi']
    rfl
  keep := fun _ _ _ _ _ _ _ _ => True.intro
end
/-- where the things stand that are walked: new ones, or those of the names that are walked -/
def Tmp (H : Hp) (is : List Nat) (s : Sg) (sv : L2.St) : Addr → Prop := fun a => H a = none ∨ ∃ (i : Nat) (d : D), i ∈ is ∧ s[i]? = some (some d) ∧ sv[i]? = some (some (.ref a)) ∧ (∃ xs, lend d = .vw xs)
def tIx (c : Tx) (n : Nat) (it : Ix) : TI := fun sv H R => ∃ s h r, SRel c r H s sv ∧ HRel c r h H ∧ (match evI c.P (callF c.P n) it s h with
  | .ok p h' => ∀ J r' H' G, Gd c p.1 p.2 J r' h' H' (Tmp H (slotI it) s sv) G → p.1.length ≤ sizeLine → HRel c r' h' H' → Ext c r H r' H' → R J H'
  | _ => False)
end Rm
set_option Elab.async false
set_option linter.all false
set_option autoImplicit false
set_option maxRecDepth 100000
/-! Soundness 7: each kind of expression. -/
namespace Rm
open PySem PySem.Spec PyProof.Rows L2
section
variable {c : Tx} {n : Nat} {X : Cx} {N : List Str} {sc : Scope}
theorem okE_pe {x : Ex} {e : Expr} (pe : PE X e (tEx c n x)) (hd : okHead e = true) (hv : ∀ whole, isTrue e X.env whole = (do let v ← whole; standAt e.pos; holding [v] (truthy v))) : OkE c n X x e := by
  refine ⟨pe, PT.imp' (pt_val pe hv) fun sv H Q ⟨s, h, r, SR, hh, o⟩ => ?_, hd⟩
  refine tEx_bd SR hh o fun v H1 d h1 r1 z fr hh1 ee SR1 o1 => ?_
  cases d with
  | s t =>
    cases t with
    | bl b => exact ⟨b, z, o1 b r1 H1 rfl hh1 ee⟩
    | _ => exact o1.elim
  | _ => exact o1.elim
theorem ok_c {t : T} {k : Const} {j : Nat} {pos : Pos} (m : mC t k = true) : OkE c n X (.c t) (.Constant k j pos) := by
  have fin : ∀ (v : V), (∀ r H, RepT c r H t v) → PE X (.Constant k j pos) (tC v) → OkE c n X (.c t) (.Constant k j pos) := fun v hr pe =>
    okE_pe (PE.imp' pe fun sv H Q ⟨s, h, r, SR, hh, o⟩ => o v r H ⟨hr r H, fun e => by cases e⟩ hh Ext.refl) rfl (fun _ => rfl)
  cases t <;> cases k <;> first | (cases m; done) | skip
  · exact fin .non (fun _ _ => rfl) pe_non
  · have e := eq_of_beq m
    subst e
    exact fin (.bl _) (fun _ _ => rfl) pe_bl
  · have e := eq_of_beq m
    subst e
    exact fin (.int _) (fun _ _ => rfl) pe_int
  · obtain ⟨m1, m2⟩ := Bool.and_eq_true_iff.mp m
    have e := of_decide_eq_true m1
    subst e
    exact fin (.str _) (fun _ _ => ⟨rfl, sizeOk_le m2⟩) pe_str
theorem vis_of {x : Str} (m : visB sc x = true) : (sc.names.lookup x = some .local ∨ sc.names.lookup x = some .cell ∨ sc.names.lookup x = some .free) ∧ (x == ("__debug__" : Str)) = false ∧ (x == ("__classdict__" : Str)) = false := by
  unfold visB at m
  simp only [Bool.and_eq_true, Bool.or_eq_true, decide_eq_true_eq, Bool.not_eq_true'] at m
  obtain ⟨⟨m1, m2⟩, m3⟩ := m
  refine ⟨?_, m2, m3⟩
  rcases m1 with (m1 | m1) | m1
  · exact .inl m1
  · exact .inr (.inl m1)
  · exact .inr (.inr m1)
theorem gl_of {x : Str} (m : glB sc x = true) : sc.names.lookup x = some .globalImplicit ∧ (x == ("__debug__" : Str)) = false := by
  unfold glB at m
  simp only [Bool.and_eq_true, decide_eq_true_eq, Bool.not_eq_true'] at m
  exact m
theorem Cm.gl (C : Cm c n N sc X) {x : Str} (m : glB sc x = true) : Gl X x ∧ (x == ("__debug__" : Str)) = false := by
  obtain ⟨m1, m2⟩ := gl_of m
  exact ⟨by unfold Gl; show X.env.scope.names.lookup x = _; rw [C.esc]; exact m1, m2⟩
theorem Cm.vis (C : Cm c n N sc X) {x : Str} (m : visB sc x = true) : Vis X.env.scope x ∧ (x == ("__debug__" : Str)) = false ∧ (x == ("__classdict__" : Str)) = false := by
  obtain ⟨m1, m2⟩ := vis_of m
  exact ⟨by unfold Vis; rw [C.esc]; exact m1, m2⟩
theorem ok_v (C : Cm c n N sc X) {i : Nat} {x : Str} {pos : Pos} (m : (decide (N[i]? = some x) && visB sc x) = true) : OkE c n X (.v i) (.Name x pos) := by
  obtain ⟨m1, m2⟩ := Bool.and_eq_true_iff.mp m
  have m1 := of_decide_eq_true m1
  obtain ⟨v1, v2, v3⟩ := C.vis m2
  refine okE_pe (PE.imp' (pe_var (X := X) (i := i) (by rw [C.eN]; exact m1) v1 v2 v3) fun sv H Q ⟨s, h, r, SR, hh, o⟩ => ?_) rfl (fun _ => rfl)
  simp only [evE] at o
  cases q : s[i]? with
  | none => rw [q] at o; exact o.elim
  | some od =>
    cases od with
    | none => rw [q] at o; exact o.elim
    | some d =>
      rw [q] at o
      obtain ⟨v, e1, e2⟩ := SR.val i d q
      refine ⟨v, e1, o v r H ⟨?_, fun e => ?_⟩ hh Ext.refl⟩
      · cases d <;> exact e2
      · cases d <;> cases e
theorem ok_g (C : Cm c n N sc X) {k : Nat} {x : Str} {pos : Pos} (m : (decide (c.nm.gn k = x) && glB sc x) = true) : OkE c n X (.g k) (.Name x pos) := by
  obtain ⟨m1, m2⟩ := Bool.and_eq_true_iff.mp m
  have m1 := of_decide_eq_true m1
  obtain ⟨g1, g2⟩ := C.gl m2
  cases q : c.P.gl k with
  | none => exact okE_pe ⟨fun _ _ _ _ _ _ z => by
      obtain ⟨s, h, r, SR, hh, o⟩ := z
      simp only [evE, q] at o
      exact o.elim⟩ rfl (fun _ => rfl)
  | some t =>
    obtain ⟨u, v, e1, e2, e3⟩ := C.tx.gl k t q
    refine okE_pe (PE.imp' (pe_glob g1 (by rw [C.emg, ← m1]; exact e1) e2 g2) fun sv H Q ⟨s, h, r, SR, hh, o⟩ => ?_) rfl (fun _ => rfl)
    simp only [evE, q] at o
    exact o v r H ⟨e3 r H, fun e => by cases e⟩ hh Ext.refl
theorem ok_bin (C : Cm c n N sc X) {op : Bop} {a b : Ex} {l r' : Expr} {pos : Pos} (ha : OkE c n X a l) (hb : OkE c n X b r') : OkE c n X (.bin op a b) (.BinOp l (bopOf op) r' pos) := by
  refine okE_pe (PE.imp' (pe_op (bin_ok C.eK op) ha.pe hb.pe) fun sv H Q ⟨s, h, r, SR, hh, o⟩ => ?_) rfl (fun _ => rfl)
  simp only [evE] at o
  refine tEx_bd SR hh o fun v H1 d h1 r1 z fr hh1 ee SR1 o1 => ?_
  refine tEx_bd SR1 hh1 (o1.mv bk_D ee) fun w H2 d2 h2 r2 z2 fr2 hh2 ee2 SR2 o2 => ?_
  exact ⟨d, d2, h2, r2, z.ext ee2, z2, hh2, o2.mv bk_D ee2⟩
theorem ok_neg {a : Ex} {e : Expr} {pos : Pos} (ha : OkE c n X a e) : OkE c n X (.neg a) (.UnaryOp .USub e pos) := by
  refine okE_pe (PE.imp' (pe_un un_neg ha.pe) fun sv H Q ⟨s, h, r, SR, hh, o⟩ => ?_) rfl (fun _ => rfl)
  simp only [evE] at o
  refine tEx_bd SR hh o fun v H1 d h1 r1 z fr hh1 ee SR1 o1 => ?_
  cases d with
  | s t =>
    cases t with
    | int i => exact ⟨i, z, o1 _ r1 H1 ⟨rfl, fun e => by cases e⟩ hh1 ee⟩
    | _ => exact o1.elim
  | _ => exact o1.elim
theorem Cm.units (C : Cm c n N sc X) : X.A.units + 64 < cLine := C.room.units
theorem Cm.units65 (C : Cm c n N sc X) : X.A.units + 65 < cLine := by have := C.room.un; omega
theorem bl_Q {r r' : List Addr} {H H' : Hp} {h : LH} {b : Bool} {Q : VK} (o : Out c (rD c) r H (.ok (.s (.bl b)) h) Q) (hh : HRel c r' h H') (ee : Ext c r H r' H') : Q (.bl b) H' := o (.bl b) r' H' ⟨rfl, fun e => by cases e⟩ hh ee
theorem ok_cmp (C : Cm c n N sc X) {op : Cop} {a b : Ex} {l r' : Expr} {pos : Pos} (ha : OkE c n X a l) (hb : OkE c n X b r') : OkE c n X (.cmp op a b) (.Compare l [copOf op] [r'] pos) := by
  refine ⟨PE.imp' (pe_cmpR (cmp_ok C.eK C.units65 op) ha.pe hb.pe (hd_mark hb.hd _)) fun sv H Q ⟨s, h, r, SR, hh, o⟩ => ?_, PT.imp' (pt_cmpR (cmp_ok C.eK C.units65 op) ha.pe hb.pe (hd_mark hb.hd _)) fun sv H Q ⟨s, h, r, SR, hh, o⟩ => ?_, rfl⟩
  · simp only [evE] at o
    refine tEx_bd SR hh o fun v H1 d h1 r1 z fr hh1 ee SR1 o1 => ?_
    refine tEx_bd SR1 hh1 (o1.mv bk_D ee) fun w H2 d2 h2 r2 z2 fr2 hh2 ee2 SR2 o2 => ?_
    refine ⟨d, d2, h2, r2, z.ext ee2, z2, hh2, (Out.step (rep := rB) SR2 (o2.mv bk_D ee2)).weak fun b H3 ⟨b', h3, r3, e3, hh3, ee3, SR3, o3⟩ => ?_⟩
    obtain rfl := e3
    exact bl_Q o3 hh3 ee3
  · simp only [evE, bd_assoc] at o
    refine tEx_bd SR hh o fun v H1 d h1 r1 z fr hh1 ee SR1 o1 => ?_
    refine tEx_bd SR1 hh1 (o1.mv bk_B ee) fun w H2 d2 h2 r2 z2 fr2 hh2 ee2 SR2 o2 => ?_
    refine ⟨d, d2, h2, r2, z.ext ee2, z2, hh2, (Out.step (rep := rB) SR2 (o2.mv bk_B ee2)).weak fun b H3 ⟨b', h3, r3, e3, hh3, ee3, SR3, o3⟩ => ?_⟩
    obtain rfl := e3
    exact ⟨_, rfl, o3 _ r3 H3 rfl hh3 ee3⟩
theorem ok_chn (C : Cm c n N sc X) {p q : Cop} {a b d : Ex} {l m r' : Expr} {pos : Pos} (ha : OkE c n X a l) (hb : OkE c n X b m) (hd : OkE c n X d r') : OkE c n X (.chn p q a b d) (.Compare l [copOf p, copOf q] [m, r'] pos) := by
  have mk : lastMarks [copOf p, copOf q] [m, r'] = false := hd_mark hd.hd _
  refine ⟨PE.imp' (pe_chain (cmp_ok C.eK C.units65 p) (cmp_ok C.eK C.units65 q) ha.pe hb.pe hd.pe mk) fun sv H Q ⟨s, h, r, SR, hh, o⟩ => ?_, PT.imp' (pt_chain (cmp_ok C.eK C.units65 p) (cmp_ok C.eK C.units65 q) ha.pe hb.pe hd.pe mk) fun sv H Q ⟨s, h, r, SR, hh, o⟩ => ?_, rfl⟩
  · simp only [evE] at o
    refine tEx_bd SR hh o fun v H1 d1 h1 r1 z fr hh1 ee SR1 o1 => ?_
    refine tEx_bd SR1 hh1 (o1.mv bk_D ee) fun w H2 d2 h2 r2 z2 fr2 hh2 ee2 SR2 o2 => ?_
    refine ⟨d1, d2, h2, r2, z.ext ee2, z2, hh2, (Out.step (rep := rB) SR2 (o2.mv bk_D ee2)).weak fun b H3 ⟨b', h3, r3, e3, hh3, ee3, SR3, o3⟩ => ?_⟩
    obtain rfl := e3
    refine ⟨_, rfl, ?_⟩
    cases b with
    | false => exact bl_Q o3 hh3 ee3
    | true =>
      refine tEx_bd SR3 hh3 (Out.mv bk_D o3 ee3) fun w3 H4 d4 h4 r4 z4 fr4 hh4 ee4 SR4 o4 => ?_
      refine ⟨d2, d4, h4, r4, (z2.ext ee3).ext ee4, z4, hh4, (Out.step (rep := rB) SR4 (o4.mv bk_D ee4)).weak fun b H5 ⟨b5, h5, r5, e5, hh5, ee5, SR5, o5⟩ => ?_⟩
      obtain rfl := e5
      exact bl_Q o5 hh5 ee5
  · simp only [evE, bd_assoc] at o
    refine tEx_bd SR hh o fun v H1 d1 h1 r1 z fr hh1 ee SR1 o1 => ?_
    refine tEx_bd SR1 hh1 (o1.mv bk_B ee) fun w H2 d2 h2 r2 z2 fr2 hh2 ee2 SR2 o2 => ?_
    refine ⟨d1, d2, h2, r2, z.ext ee2, z2, hh2, (Out.step (rep := rB) SR2 (o2.mv bk_B ee2)).weak fun b H3 ⟨b', h3, r3, e3, hh3, ee3, SR3, o3⟩ => ?_⟩
    obtain rfl := e3
    refine ⟨_, rfl, ?_⟩
    cases b with
    | false => exact ⟨false, rfl, o3 false r3 H3 rfl hh3 ee3⟩
    | true =>
      replace o3 := Out.mv bk_B o3 ee3
      simp only [if_true, bd_assoc] at o3
      refine tEx_bd SR3 hh3 o3 fun w3 H4 d4 h4 r4 z4 fr4 hh4 ee4 SR4 o4 => ?_
      refine ⟨d2, d4, h4, r4, (z2.ext ee3).ext ee4, z4, hh4, (Out.step (rep := rB) SR4 (o4.mv bk_B ee4)).weak fun b H5 ⟨b5, h5, r5, e5, hh5, ee5, SR5, o5⟩ => ?_⟩
      obtain rfl := e5
      exact ⟨_, rfl, o5 _ r5 H5 rfl hh5 ee5⟩
theorem ok_not {a : Ex} {e : Expr} {pos : Pos} (ha : OkE c n X a e) : OkE c n X (.not a) (.UnaryOp .Not e pos) := by
  refine ⟨PE.imp' (pe_not ha.pe) fun sv H Q ⟨s, h, r, SR, hh, o⟩ => ?_, PT.imp' (pt_not ha.pt) fun sv H Q ⟨s, h, r, SR, hh, o⟩ => ?_, rfl⟩
  · simp only [evE] at o
    refine tEx_bd SR hh o fun v H1 d h1 r1 z fr hh1 ee SR1 o1 => ?_
    cases d with
    | s t =>
      cases t with
      | bl b => exact ⟨b, z, bl_Q o1 hh1 ee⟩
      | _ => exact o1.elim
    | _ => exact o1.elim
  · simp only [evE, bd_assoc] at o
    refine tTx_bd SR hh o fun b H1 h1 r1 hh1 ee SR1 o1 => ?_
    exact o1 _ r1 H1 rfl hh1 ee
theorem ok_tup {xs : List Ex} {es : List Expr} {k : Nat} {pos : Pos} (ha : All2 c n X xs es) : OkE c n X (.tup xs) (.Tuple es k pos) := by
  refine okE_pe (PE.imp' (pe_tup (pa_T ha)) fun sv H Q ⟨s, h, r, SR, hh, o⟩ => ?_) rfl (fun _ => rfl)
  simp only [evE] at o
  refine ⟨s, h, r, SR, hh, (Out.step (rep := rTs c) SR o).weak fun vs H1 ⟨ts, h1, r1, z, hh1, ee, SR1, o1⟩ => ?_⟩
  split at o1
  · rename_i hz
    have z' : RepTs c r1 H1 ts vs := z
    refine ⟨by rw [z'.length]; exact sizeOk_le hz, fun p hp => ?_⟩
    exact fin_tup (Out.mv bk_D o1 ee) hh1 hp z'
  · exact o1.elim
theorem ok_lst {xs : List Ex} {es : List Expr} {pos : Pos} (ha : All2 c n X xs es) : OkE c n X (.lst xs) (.List es pos) := by
  refine okE_pe (PE.imp' (pe_lst (pa_T ha)) fun sv H Q ⟨s, h, r, SR, hh, o⟩ => ?_) rfl (fun _ => rfl)
  simp only [evE] at o
  refine ⟨s, h, r, SR, hh, (Out.step (rep := rTs c) SR o).weak fun vs H1 ⟨ts, h1, r1, z, hh1, ee, SR1, o1⟩ => ?_⟩
  split at o1
  · rename_i hz
    have z' : RepTs c r1 H1 ts vs := z
    refine ⟨by rw [z'.length]; exact sizeOk_le hz, fun p hp => ?_⟩
    exact fin_tl (Out.mv bk_D o1 ee) hh1 hp z'
  · exact o1.elim
theorem ok_ix (C : Cm c n N sc X) {a i : Ex} {l r' : Expr} {pos : Pos} (ha : OkE c n X a l) (hb : OkE c n X i r') : OkE c n X (.ix a i) (.Subscript l r' pos) := by
  refine okE_pe (PE.imp' (pe_ix (ix_ok C.eK C.units) ha.pe hb.pe (hd_ix hb.hd)) fun sv H Q ⟨s, h, r, SR, hh, o⟩ => ?_) rfl (fun _ => rfl)
  simp only [evE] at o
  refine tEx_bd SR hh o fun v H1 d h1 r1 z fr hh1 ee SR1 o1 => ?_
  refine tEx_bd SR1 hh1 (o1.mv bk_D ee) fun w H2 d2 h2 r2 z2 fr2 hh2 ee2 SR2 o2 => ?_
  exact ⟨d, d2, h2, r2, z.ext ee2, z2, hh2, o2.mv bk_D ee2⟩
end
end Rm
set_option Elab.async false
set_option linter.all false
set_option autoImplicit false
set_option maxRecDepth 100000
/-! Soundness 8: more kinds of expressions. -/
namespace Rm
open PySem PySem.Spec PyProof.Rows L2
section
variable {c : Tx} {n : Nat} {X : Cx} {N : List Str} {sc : Scope}
theorem ok_fr (C : Cm c n N sc X) {f : Nat} {x : Str} {pos : Pos} (m : (decide (c.nm.fn f = x) && glB sc x) = true) : OkE c n X (.fr f) (.Name x pos) := by
  obtain ⟨m1, m2⟩ := Bool.and_eq_true_iff.mp m
  have m1 := of_decide_eq_true m1
  obtain ⟨g1, g2⟩ := C.gl m2
  cases q : c.P.df f with
  | none => exact okE_pe ⟨fun _ _ _ _ _ _ z => by
      obtain ⟨s, h, r, SR, hh, o⟩ := z
      simp only [evE, q] at o
      exact o.elim⟩ rfl (fun _ => rfl)
  | some d =>
    obtain ⟨a, fd, ps, e1, e2, e3, F⟩ := C.fns f d q
    refine okE_pe (PE.imp' (pe_glob (v := .ref a) g1 (by rw [C.emg, ← m1]; exact e1) rfl g2) fun sv H Q ⟨s, h, r, SR, hh, o⟩ => ?_) rfl (fun _ => rfl)
    simp only [evE, q] at o
    exact o (.ref a) r H ⟨⟨a, rfl, e1⟩, fun e => by cases e⟩ hh Ext.refl
theorem ok_ite {d a b : Ex} {t x y : Expr} {pos : Pos} (hd : OkE c n X d t) (ha : OkE c n X a x) (hb : OkE c n X b y) : OkE c n X (.ite d a b) (.IfExp t x y pos) := by
  refine ⟨PE.imp' (pe_ifExp hd.pt ha.pe hb.pe) fun sv H Q ⟨s, h, r, SR, hh, o⟩ => ?_, ?_, rfl⟩
  · simp only [evE] at o
    refine tTx_bd SR hh o fun b H1 h1 r1 hh1 ee SR1 o1 => ?_
    cases b with
    | true => exact ⟨s, h1, r1, SR1, hh1, Out.mv bk_D o1 ee⟩
    | false => exact ⟨s, h1, r1, SR1, hh1, Out.mv bk_D o1 ee⟩
  · refine ⟨fun pins s0 σ H Q I z => ?_⟩
    obtain ⟨s, h, r, SR, hh, o⟩ := z
    simp only [evE, bd_assoc] at o
    refine isTrue_IfExp (thn (hd.pt.run pins s0 σ H (fun bb H1 => if bb = true then tTx c n a σ H1 Q else tTx c n b σ H1 Q) I ?_) fun bb s1 ⟨H1, I1, q1⟩ => ?_)
    · refine tTx_bd SR hh o fun b H1 h1 r1 hh1 ee SR1 o1 => ?_
      cases b with
      | true => exact ⟨s, h1, r1, SR1, hh1, Out.mv bk_B o1 ee⟩
      | false => exact ⟨s, h1, r1, SR1, hh1, Out.mv bk_B o1 ee⟩
    · cases bb with
      | true => exact ha.pt.run pins s1 σ H1 Q I1 q1
      | false => exact hb.pt.run pins s1 σ H1 Q I1 q1
theorem ok_and : ∀ {xs : List Ex} {es : List Expr} {pos : Pos}, All2 c n X xs es → es ≠ [] → PE X (.BoolOp .And es pos) (tEx c n (.and xs)) ∧ PW X (.BoolOp .And es pos) (tTx c n (.and xs))
  | _, _, _, .nil, ne => absurd rfl ne
  | _, _, pos, .cons (x := x) (e := e) a .nil, _ => by
    have eq : ∀ s h, evE c.P (callF c.P n) (.and [x]) s h = evE c.P (callF c.P n) x s h := fun s h => by simp only [evE, evN]
    refine ⟨PE.imp' (pe_one a.pe) fun sv H Q ⟨s, h, r, SR, hh, o⟩ => ⟨s, h, r, SR, hh, by rw [eq] at o; exact o⟩, ⟨fun wh pins s0 σ H Q I ⟨s, h, r, SR, hh, o⟩ => (pw_and1 a.pt).run wh pins s0 σ H Q I ⟨s, h, r, SR, hh, by rw [eq] at o; exact o⟩⟩⟩
  | _, _, pos, .cons (x := x) (e := e) a (.cons (x := x2) (e := e2) (xs := xs) (es := es) b rest), _ => by
    obtain ⟨i1, i2⟩ := ok_and (pos := pos) (.cons b rest) (by simp)
    refine ⟨PE.imp' (pe_and a.pe i1) fun sv H Q ⟨s, h, r, SR, hh, o⟩ => ?_, ⟨fun wh pins s0 σ H Q I ⟨s, h, r, SR, hh, o⟩ => (pw_and a.pt i2).run wh pins s0 σ H Q I ?_⟩⟩
    · rw [evE] at o
      unfold evN at o
      refine tEx_bd SR hh o fun v H1 d h1 r1 z fr hh1 ee SR1 o1 => ?_
      cases d with
      | s t =>
        cases t with
        | bl b =>
          refine ⟨b, z, ?_⟩
          cases b with
          | true => exact ⟨s, h1, r1, SR1, hh1, by rw [evE]; exact Out.mv bk_D o1 ee⟩
          | false => exact bl_Q o1 hh1 ee
        | _ => exact o1.elim
      | _ => exact o1.elim
    · rw [evE] at o
      unfold evN at o
      simp only [bd_assoc] at o
      refine tTx_bd SR hh o fun b H1 h1 r1 hh1 ee SR1 o1 => ?_
      cases b with
      | true => exact ⟨s, h1, r1, SR1, hh1, by rw [evE]; exact Out.mv bk_B o1 ee⟩
      | false => exact o1 false r1 H1 rfl hh1 ee
theorem ok_or : ∀ {xs : List Ex} {es : List Expr} {pos : Pos}, All2 c n X xs es → es ≠ [] → PE X (.BoolOp .Or es pos) (tEx c n (.or xs)) ∧ PW X (.BoolOp .Or es pos) (tTx c n (.or xs))
  | _, _, _, .nil, ne => absurd rfl ne
  | _, _, pos, .cons (x := x) (e := e) a .nil, _ => by
    have eq : ∀ s h, evE c.P (callF c.P n) (.or [x]) s h = evE c.P (callF c.P n) x s h := fun s h => by simp only [evE, evN]
    refine ⟨PE.imp' (pe_one a.pe) fun sv H Q ⟨s, h, r, SR, hh, o⟩ => ⟨s, h, r, SR, hh, by rw [eq] at o; exact o⟩, ⟨fun wh pins s0 σ H Q I ⟨s, h, r, SR, hh, o⟩ => (pw_or1 a.pt).run wh pins s0 σ H Q I ⟨s, h, r, SR, hh, by rw [eq] at o; exact o⟩⟩⟩
  | _, _, pos, .cons (x := x) (e := e) a (.cons (x := x2) (e := e2) (xs := xs) (es := es) b rest), _ => by
    obtain ⟨i1, i2⟩ := ok_or (pos := pos) (.cons b rest) (by simp)
    refine ⟨PE.imp' (pe_or a.pe i1) fun sv H Q ⟨s, h, r, SR, hh, o⟩ => ?_, ⟨fun wh pins s0 σ H Q I ⟨s, h, r, SR, hh, o⟩ => (pw_or a.pt i2).run wh pins s0 σ H Q I ?_⟩⟩
    · rw [evE] at o
      unfold evN at o
      refine tEx_bd SR hh o fun v H1 d h1 r1 z fr hh1 ee SR1 o1 => ?_
      cases d with
      | s t =>
        cases t with
        | bl b =>
          refine ⟨b, z, ?_⟩
          cases b with
          | false => exact ⟨s, h1, r1, SR1, hh1, by rw [evE]; exact Out.mv bk_D o1 ee⟩
          | true => exact bl_Q o1 hh1 ee
        | _ => exact o1.elim
      | _ => exact o1.elim
    · rw [evE] at o
      unfold evN at o
      simp only [bd_assoc] at o
      refine tTx_bd SR hh o fun b H1 h1 r1 hh1 ee SR1 o1 => ?_
      cases b with
      | false => exact ⟨s, h1, r1, SR1, hh1, by rw [evE]; exact Out.mv bk_B o1 ee⟩
      | true => exact o1 true r1 H1 rfl hh1 ee
inductive Op2 (c : Tx) (n : Nat) (X : Cx) : Option Ex → Option Expr → Prop
  | none : Op2 c n X none none
  | some {x : Ex} {e : Expr} : OkE c n X x e → Op2 c n X (some x) (some e)
def tOx (c : Tx) (n : Nat) (x : Option Ex) : TO := fun sv H Q => ∃ s h r, SRel c r H s sv ∧ HRel c r h H ∧ Out c (fun _ _ _ (a b : Option Int) => b = a) r H (evO c.P (callF c.P n) x s h) Q
theorem po_ok {x : Option Ex} {e : Option Expr} (a : Op2 c n X x e) : PO X e (tOx c n x) := by
  cases a with
  | none => exact ⟨fun pins s0 σ H Q I ⟨s, h, r, SR, hh, o⟩ => po_none.run pins s0 σ H Q I (by simp only [evO] at o; exact o none r H rfl hh Ext.refl)⟩
  | some a =>
    refine ⟨fun pins s0 σ H Q I ⟨s, h, r, SR, hh, o⟩ => (po_some a.pe).run pins s0 σ H Q I ?_⟩
    simp only [evO] at o
    refine tEx_bd SR hh o fun v H1 d h1 r1 z fr hh1 ee SR1 o1 => ?_
    cases d with
    | s t =>
      cases t with
      | int i => exact ⟨i, z, o1 _ r1 H1 rfl hh1 ee⟩
      | _ => exact o1.elim
    | _ => exact o1.elim
theorem ok_sl (C : Cm c n N sc X) {a : Ex} {lo hi : Option Ex} {e : Expr} {l u : Option Expr} {p2 pos : Pos} (ha : OkE c n X a e) (hl : Op2 c n X lo l) (hu : Op2 c n X hi u) : OkE c n X (.sl a lo hi) (.Subscript e (.Slice l u none p2) pos) := by
  refine okE_pe (PE.imp' (pe_slice (sl_ok C.eK) ha.pe (po_ok hl) (po_ok hu)) fun sv H Q ⟨s, h, r, SR, hh, o⟩ => ?_) rfl (fun _ => rfl)
  simp only [evE] at o
  refine tEx_bd SR hh o fun v H1 d h1 r1 z fr hh1 ee SR1 o1 => ?_
  refine ⟨s, h1, r1, SR1, hh1, (Out.step SR1 (o1.mv bk_D ee)).weak fun l H2 ⟨l', h2, r2, e2, hh2, ee2, SR2, o2⟩ => ?_⟩
  obtain rfl := e2
  refine ⟨s, h2, r2, SR2, hh2, (Out.step SR2 (Out.mv bk_D o2 ee2)).weak fun u H3 ⟨u', h3, r3, e3, hh3, ee3, SR3, o3⟩ => ?_⟩
  obtain rfl := e3
  exact ⟨d, h3, r3, (z.ext ee2).ext ee3, hh3, Out.mv bk_D o3 ee3⟩
theorem backTo_any {pos : Pos} {xs : List Ex} {es : List Expr} (a : All2 c n X xs es) (env : Env) : (backTo pos (starEach es env)).any (·.1) = false := by
  induction a with
  | nil => rfl
  | cons a b ih =>
    rw [hd_star a.hd]
    unfold backTo at ih ⊢
    rw [List.map_cons, List.any_cons, ih]
    rfl
theorem callF_len {P : Pg} {n f : Nat} {ds : List D} {h : LH} (e : callF P n f ds h ≠ .bad) : ∃ d, P.df f = some d ∧ ds.length = d.np := by
  cases n with
  | zero => exact absurd rfl e
  | succ m =>
    unfold callF at e
    cases q : P.df f with
    | none => rw [q] at e; exact absurd rfl e
    | some d =>
      rw [q] at e
      refine ⟨d, rfl, ?_⟩
      by_cases hl : ds.length = d.np
      · exact hl
      · exfalso
        apply e
        show run P _ d ds h = .bad
        unfold run
        rw [if_neg hl]
theorem Out.ne_bad {α β : Type} {rep : Hp → List Addr → Hp → α → β → Prop} {r : List Addr} {H : Hp} {res : R α} {Q : β → Hp → Prop} (o : Out c rep r H res Q) : res ≠ .bad := fun e => by rw [e] at o; exact o
theorem ok_call (C : Cm c n N sc X) {f : Nat} {xs : List Ex} {x : Str} {es : List Expr} {p pos : Pos} (m : (decide (c.nm.fn f = x) && glB sc x) = true) (ha : All2 c n X xs es) : OkE c n X (.call f xs) (.Call (.Name x p) es [] pos) := by
  obtain ⟨m1, m2⟩ := Bool.and_eq_true_iff.mp m
  have m1 := of_decide_eq_true m1
  obtain ⟨g1, g2⟩ := C.gl m2
  cases q : c.P.df f with
  | none => exact okE_pe ⟨fun _ _ _ _ _ _ z => by
      obtain ⟨s, h, r, SR, hh, o⟩ := z
      simp only [evE] at o
      exfalso
      cases q2 : evA c.P (callF c.P n) xs s h with
      | ok ds h1 =>
        rw [q2] at o
        obtain ⟨d, e, _⟩ := callF_len (Out.ne_bad o)
        rw [q] at e; cases e
      | exc a b => rw [q2] at o; exact o
      | bad => rw [q2] at o; exact o⟩ rfl (fun _ => rfl)
  | some d =>
    obtain ⟨a, fd, ps, e1, e2, e3, F⟩ := C.fns f d q
    rw [← C.eK, ← C.emg] at F
    rw [← C.eK] at e2 e3
    have e1 : X.mg x = some (.ref a) := by rw [C.emg, ← m1]; exact e1
    have fin : PE X (.Call (.Name x p) es [] pos) (tCallG (spF c n f) (tAx c n xs)) → OkE c n X (.call f xs) (.Call (.Name x p) es [] pos)   := fun pe => okE_pe (PE.imp' pe fun sv H Q ⟨s, h, r, SR, hh, o⟩ => by
      simp only [evE] at o
      refine ⟨s, h, r, SR, hh, (Out.step (rep := rAs c) SR o).weak fun vs H1 ⟨ds, h1, r1, z, hh1, ee, SR1, o1⟩ => ?_⟩
      exact ⟨ds, h1, r1, z.1, z.2, hh1, o1.mv bk_D ee⟩) rfl (fun _ => rfl)
    cases es with
    | nil =>
      cases ha
      refine okE_pe (PE.imp' (pe_callG0 F C.room C.grd g1 e1 e2 e3 g2) fun sv H Q ⟨s, h, r, SR, hh, o⟩ => ?_) rfl (fun _ => rfl)
      simp only [evE, evA] at o
      exact ⟨[], h, r, rfl, by simp, hh, o⟩
    | cons e es =>
      cases ha with
      | cons a1 a2 => exact fin (pe_callG F C.room C.grd g1 e1 e2 e3 (pa_A (.cons a1 a2)) g2 (hd_star a1.hd _ _) (backTo_any a2 _))
theorem ok_calv (C : Cm c n N sc X) {i : Nat} {xs : List Ex} {x : Str} {es : List Expr} {p pos : Pos} (m : (decide (N[i]? = some x) && visB sc x) = true) (ne : es ≠ []) (ha : All2 c n X xs es) : OkE c n X (.calv i xs) (.Call (.Name x p) es [] pos) := by
  obtain ⟨m1, m2⟩ := Bool.and_eq_true_iff.mp m
  have m1 := of_decide_eq_true m1
  obtain ⟨v1, v2, v3⟩ := C.vis m2
  cases ha with
  | nil => exact absurd rfl ne
  | cons a1 a2 =>
    refine okE_pe (PE.imp' (pe_callGL (i := i) (k := n) (S := fun a sp => ∃ f d, c.P.df f = some d ∧ c.mg (c.nm.fn f) = some (.ref a) ∧ sp = spF c n f) (fun a sp hS => ?_) C.room C.grd (by rw [C.eN]; exact m1) v1 (pa_A (.cons a1 a2)) v2 v3 (hd_star a1.hd _ _) (backTo_any a2 _)) fun sv H Q ⟨s, h, r, SR, hh, o⟩ => ?_) rfl (fun _ => rfl)
    · obtain ⟨f, d, q, e, rfl⟩ := hS
      obtain ⟨a', fd, ps, e1, e2, e3, F⟩ := C.fns f d q
      rw [e] at e1
      cases e1
      rw [← C.eK, ← C.emg] at F
      rw [← C.eK] at e2 e3
      exact ⟨fd, ps, F, e2, e3⟩
    · simp only [evE] at o
      split at o
      · rename_i f q
        obtain ⟨v, w1, w2⟩ := SR.val i _ q
        obtain ⟨a, rfl, w3⟩ := w2
        have hd : ∃ d, c.P.df f = some d := by
          cases q2 : evA c.P (callF c.P n) _ s h with
          | ok ds h1 =>
            rw [q2] at o
            obtain ⟨d, e, _⟩ := callF_len (Out.ne_bad o)
            exact ⟨d, e⟩
          | exc a b => rw [q2] at o; exact o.elim
          | bad => rw [q2] at o; exact o.elim
        obtain ⟨d, hd⟩ := hd
        refine ⟨a, _, w1, ⟨f, d, hd, w3, rfl⟩, s, h, r, SR, hh, (Out.step (rep := rAs c) SR o).weak fun vs H1 ⟨ds, h1, r1, z, hh1, ee, SR1, o1⟩ => ?_⟩
        exact ⟨ds, h1, r1, z.1, z.2, hh1, o1.mv bk_D ee⟩
      · exact o.elim
end
end Rm
set_option Elab.async false
set_option linter.all false
set_option autoImplicit false
set_option maxRecDepth 100000
/-! Soundness 9: built-ins, methods, isinstance. -/
namespace Rm
open PySem PySem.Spec PyProof.Rows L2
section
variable {c : Tx} {n : Nat} {X : Cx} {N : List Str} {sc : Scope}
theorem nm_x (b : Bi) : biNm b ∈ bnames ∧ biNm b ≠ "__name__" := by
  cases b <;> exact ⟨by decide +kernel, by decide +kernel⟩
theorem ok_bi (C : Cm c n N sc X) {b : Bi} {xs : List Ex} {es : List Expr} {p pos : Pos} (m0 : biHas b = true) (m2 : glB sc (biNm b) = true) (ne : es ≠ []) (ha : All2 c n X xs es) : OkE c n X (.bi b xs) (.Call (.Name (biNm b) p) es [] pos) := by
  obtain ⟨g1, g2⟩ := C.gl m2
  have hm : X.mg (biNm b) = none := by rw [C.emg]; exact C.tx.bl _ (nm_x b).1
  have hn := (nm_x b).2
  cases ha with
  | nil => exact absurd rfl ne
  | @cons x0 e0 xs0 es0 a1 a2 =>
    have fin : PE X (.Call (.Name (biNm b) p) (e0 :: es0) [] pos) (tCB (rBi c b) (tLx c n (x0 :: xs0))) → OkE c n X (.bi b (x0 :: xs0)) (.Call (.Name (biNm b) p) (e0 :: es0) [] pos) := fun pe => okE_pe (PE.imp' pe fun sv H Q ⟨s, h, r, SR, hh, o⟩ => by
      simp only [evE] at o
      refine ⟨s, h, r, SR, hh, (Out.step (rep := rDs c) SR o).weak fun vs H1 ⟨ds, h1, r1, z, hh1, ee, SR1, o1⟩ => ?_⟩
      exact ⟨ds, h1, r1, z, hh1, o1.mv bk_D ee⟩) rfl (fun _ => rfl)
    have blt : ∀ (id : String), bootBuiltins (biNm b) = some (.builtin id) → CallR X (.builtin id) (rBi c b) → OkE c n X (.bi b (x0 :: xs0)) (.Call (.Name (biNm b) p) (e0 :: es0) [] pos) := fun id hv hc =>
      fin (pe_callB hc g1 hm hv (pa_L (.cons a1 a2)) hn g2 (hd_star a1.hd _ _) (backTo_any a2 _))
    have typ : ∀ (T0 : String), bootBuiltins (biNm b) = some (.type T0) → CallR X (.type T0) (rBi c b) → OkE c n X (.bi b (x0 :: xs0)) (.Call (.Name (biNm b) p) (e0 :: es0) [] pos) := fun id hv hc =>
      fin (pe_callTy hc g1 hm hv (pa_L (.cons a1 a2)) hn g2 (hd_star a1.hd _ _) (backTo_any a2 _))
    cases b <;> first | (cases m0; done) | skip
    · exact blt "len" (by decide +kernel) (len_ok C.eK)
    · exact blt "all" (by decide +kernel) (all_ok C.eK C.calm)
    · exact blt "any" (by decide +kernel) (any_ok C.eK C.calm)
    · exact blt "sum" (by decide +kernel) (sum_ok C.eK C.calm)
    · exact typ "tuple" (by decide +kernel) (tup_ok C.eK)
    · exact typ "list" (by decide +kernel) (lst_ok C.eK C.calm)
    · exact blt "sorted" (by decide +kernel) (sort_ok C.eK C.calm)
    · exact blt "repr" (by decide +kernel) (repr_ok C.eK C.units C.grd)
    · exact blt "min" (by decide +kernel) (min_ok C.calm)
    · exact blt "max" (by decide +kernel) (max_ok C.calm)
    · exact blt "abs" (by decide +kernel) abs_ok
    · exact typ "str" (by decide +kernel) str_ok
    · exact typ "int" (by decide +kernel) int_ok
    · exact typ "dict" (by decide +kernel) (dict_ok C.eK C.calm)
theorem attr_ok {e : Expr} {f : Str} {env : Env} (h : recvB e = true) : attributeBase e f env (eval e env) = eval e env := by
  unfold attributeBase
  split
  · cases h
  · rfl
theorem joinC_eq (sep : List Nat) : ∀ ss : List (List Nat), Str.join ⟨sep.toArray⟩ (ss.map fun x => (⟨x.toArray⟩ : Str)) = ⟨(joinC sep ss).toArray⟩
  | [] => rfl
  | [x] => rfl
  | x :: y :: r => by
    show (⟨x.toArray⟩ : Str) ++ (⟨sep.toArray⟩ : Str) ++ Str.join ⟨sep.toArray⟩ ((y :: r).map fun x => (⟨x.toArray⟩ : Str)) = _
    rw [joinC_eq sep (y :: r), str_app, str_app]
    rfl
theorem joinC_len (sep : List Nat) : ∀ ss : List (List Nat), (joinC sep ss).length ≤ (ss.map List.length).sum + ss.length * sep.length
  | [] => by simp [joinC]
  | [x] => by simp [joinC]
  | x :: y :: r => by
    have ih := joinC_len sep (y :: r)
    show (x ++ sep ++ joinC sep (y :: r)).length ≤ _
    rw [List.length_append, List.length_append, List.map_cons, List.sum_cons, List.length_cons (a := x), Nat.succ_mul]
    omega
theorem ok_join (C : Cm c n N sc X) {o a : Ex} {e e1 : Expr} {ap cp : Pos} (hl : (ap.endLine == cp.line) = true) (hr : recvB e = true) (ho : OkE c n X o e) (ha : OkE c n X a e1) : OkE c n X (.me .join o [a]) (.Call (.Attribute e "join" ap) [e1] [] cp) := by
  refine okE_pe (PE.imp' (pe_join ho.pe ha.pe (hd_star ha.hd [] _) (attr_ok hr) hl) fun sv H Q ⟨s, h, r, SR, hh, oo⟩ => ?_) rfl (fun _ => rfl)
  simp only [evE, evL, bd_assoc, bd_ok] at oo
  refine tEx_bd SR hh oo fun v H1 d h1 r1 z fr hh1 ee SR1 o1 => ?_
  split at o1
  case isFalse => exact o1.elim
  rename_i hrv
  have sr : ∃ sp, d = .s (.str sp) := by
    cases d with
    | s t => cases t <;> first | exact ⟨_, rfl⟩ | (cases hrv; done)
    | _ => cases hrv
  obtain ⟨sp, rfl⟩ := sr
  obtain ⟨rfl, hsp⟩ := (show v = .str ⟨sp.toArray⟩ ∧ sp.length ≤ sizeLine from z)
  refine ⟨⟨_, rfl⟩, ?_⟩
  refine tEx_bd SR1 hh1 (o1.mv bk_D ee) fun w H2 d2 h2 r2 z2 fr2 hh2 ee2 SR2 o2 => ?_
  obtain ⟨d3, e3, q3⟩ := Out.some (o2.mv bk_D ee2)
  simp only [meD] at e3
  unfold meJoin at e3
  replace e3 : (match lstOf d2 h2 with
    | some xs => match strsOf xs with
      | some ss => if sizeOk ((ss.map List.length).sum + ss.length * sp.length) then some (D.s (.str (joinC sp ss))) else none
      | none => none
    | none => none) = some d3 := e3
  · split at e3
    · rename_i ts e6
      split at e3
      · rename_i ss e7
        split at e3
        · rename_i hz
          cases e3
          obtain ⟨p, vs, rfl, s1, t1⟩ := lst_read z2 hh2 e6
          rw [← C.eK, strs_V t1 e7] at s1
          have hz' := of_decide_eq_true hz
          refine ⟨_, p, ss.map fun x => (⟨x.toArray⟩ : Str), rfl, rfl, .inl s1, ?_, ?_⟩
          · have : ((ss.map fun x => (⟨x.toArray⟩ : Str)).map (·.length)) = ss.map List.length := by
              rw [List.map_map]
              refine List.map_congr_left fun x _ => ?_
              exact str_len x
            rw [this, List.length_map, str_len]
            exact hz'
          · rw [TL.join_eq, joinC_eq]
            exact fin_T q3 hh2 ⟨rfl, Nat.le_trans (joinC_len _ _) (by rw [sizeLine_eq]; exact hz')⟩
        · cases e3
      · cases e3
    · cases e3
theorem ok_split (C : Cm c n N sc X) {o a : Ex} {e e1 : Expr} {ap cp : Pos} (hl : (ap.endLine == cp.line) = true) (hr : recvB e = true) (ho : OkE c n X o e) (ha : OkE c n X a e1) : OkE c n X (.me .split o [a]) (.Call (.Attribute e "split" ap) [e1] [] cp) := by
  refine okE_pe (PE.imp' (pe_split ho.pe ha.pe (hd_star ha.hd [] _) (attr_ok hr) hl) fun sv H Q ⟨s, h, r, SR, hh, oo⟩ => ?_) rfl (fun _ => rfl)
  simp only [evE, evL, bd_assoc, bd_ok] at oo
  refine tEx_bd SR hh oo fun v H1 d h1 r1 z fr hh1 ee SR1 o1 => ?_
  split at o1
  case isFalse => exact o1.elim
  rename_i hrv
  have sr : ∃ sp, d = .s (.str sp) := by
    cases d with
    | s t => cases t <;> first | exact ⟨_, rfl⟩ | (cases hrv; done)
    | _ => cases hrv
  obtain ⟨sp, rfl⟩ := sr
  obtain ⟨rfl, hsp⟩ := (show v = .str ⟨sp.toArray⟩ ∧ sp.length ≤ sizeLine from z)
  refine ⟨⟨_, rfl⟩, ?_⟩
  refine tEx_bd SR1 hh1 (o1.mv bk_D ee) fun w H2 d2 h2 r2 z2 fr2 hh2 ee2 SR2 o2 => ?_
  obtain ⟨d3, e3, q3⟩ := Out.some (o2.mv bk_D ee2)
  simp only [meD] at e3
  unfold meSplit at e3
  split at e3
  · rename_i ch e4 e5
    cases e4
    cases e5
    obtain ⟨rfl, _⟩ := (show w = .str ⟨[ch].toArray⟩ ∧ _ from z2)
    split at e3
    · rename_i hz
      obtain ⟨hz1, hz2⟩ := Bool.and_eq_true_iff.mp hz
      cases e3
      refine ⟨_, _, rfl, rfl, rfl, by rw [str_len]; exact sizeOk_le hz1, fun p hp => ?_⟩
      refine fin_tl q3 hh2 hp ?_
      have all : ∀ (ys : List Str), (ys.all fun z => sizeOk z.length) = true → RepTs c r2 H2 (ys.map fun z => T.str z.cps.toList) (ys.map V.str) := by
        intro ys
        induction ys with
        | nil => intro _; rfl
        | cons y ys ih =>
          intro hy
          rw [List.all_cons, Bool.and_eq_true] at hy
          refine ⟨.str y, _, rfl, ⟨by simp, ?_⟩, ih hy.2⟩
          rw [Array.length_toList]
          exact sizeOk_le hy.1
      exact all _ hz2
    · cases e3
  · cases e3
theorem ok_get (C : Cm c n N sc X) {o a b : Ex} {e e1 e2 : Expr} {ap cp : Pos} (hl : (ap.endLine == cp.line) = true) (hr : recvB e = true) (ho : OkE c n X o e) (ha : OkE c n X a e1) (hb : OkE c n X b e2) : OkE c n X (.me .get o [a, b]) (.Call (.Attribute e "get" ap) [e1, e2] [] cp) := by
  have st : starEach [e1, e2] X.env = [(false, eval e1 X.env), (false, eval e2 X.env)] := by rw [hd_star ha.hd, hd_star hb.hd]; rfl
  have M : M2 X e "get" ap e1 e2 cp := ⟨attr_ok hr, by rw [st]; rfl, hl, by rw [st]; rfl⟩
  have hu := C.units
  refine okE_pe (PE.imp' (pe_dget2 (by omega) ho.pe ha.pe hb.pe M) fun sv H Q ⟨s, h, r, SR, hh, oo⟩ => ?_) rfl (fun _ => rfl)
  simp only [evE, evL, bd_assoc, bd_ok] at oo
  refine tEx_bd SR hh oo fun v H1 d h1 r1 z fr hh1 ee SR1 o1 => ?_
  split at o1
  case isFalse => exact o1.elim
  rename_i hrv
  obtain ⟨⟨k, kvs⟩, hd⟩ := Option.isSome_iff_exists.mp (show (dctOf d h1).isSome = true from hrv)
  obtain ⟨ad, rfl, zd⟩ := dct_read z hh1 hd
  have isd : IsD H1 ad := by
    unfold RepDc at zd
    cases k with
    | true => obtain ⟨kv, z1, _⟩ := zd; exact .inr ⟨kv, .inl z1⟩
    | false => obtain ⟨kv, z1, _⟩ := zd; exact .inl ⟨kv, .inl z1⟩
  refine ⟨ad, rfl, isd, ?_⟩
  refine tEx_bd SR1 hh1 (o1.mv bk_D ee) fun w H2 d2 h2 r2 z2 fr2 hh2 ee2 SR2 o2 => ?_
  refine tEx_bd SR2 hh2 (o2.mv bk_D ee2) fun w3 H3 d3 h3 r3 z3 fr3 hh3 ee3 SR3 o3 => ?_
  obtain ⟨d4, e4, q4⟩ := Out.some (o3.mv bk_D ee3)
  have zz := (z.ext ee2).ext ee3
  have zz2 := z2.ext ee3
  simp only [meD] at e4
  unfold meGet at e4
  split at e4
  · rename_i t df e5
    cases e5
    split at e4
    · rename_i k' kvs' e6
      split at e4
      · rename_i hk
        cases e4
        obtain ⟨ad', ea, zd'⟩ := dct_read zz hh3 e6
        cases ea
        obtain ⟨o, g, lk⟩ := dget_of zd' (show RepT c r3 H3 t w from zz2) hk
        refine ⟨_, g, ?_⟩
        cases el : lookT t kvs' with
        | none =>
          rw [el] at lk q4
          rw [show o = none from lk]
          exact fin_T q4 hh3 z3
        | some u =>
          rw [el] at lk q4
          obtain ⟨u', rfl, l2⟩ := lk
          exact fin_T q4 hh3 l2
      · cases e4
    · cases e4
  · cases e4
/-- isinstance -/
def tyS : Ty → String
  | .int => "int" | .bool => "bool" | .str => "str" | .tup => "tuple" | .lst => "list" | .dct => "dict"
theorem boot_ty (t : Ty) : bootBuiltins (tyNm t) = some (.type (tyS t)) ∧ tyNm t ∈ bnames ∧ tyNm t ≠ "__name__" := by
  cases t <;> exact ⟨by decide +kernel, by decide +kernel, by decide +kernel⟩
theorem kitB_ty (a b : Ty) : kitB (tyS a) (tyS b) = some (tyIn a [b]) := by
  cases a <;> cases b <;> decide +kernel
theorem kitB_non (b : Ty) : kitB "NoneType" (tyS b) = some false := by
  cases b <;> decide +kernel
theorem tyX_of {r : List Addr} {H : Hp} {h : LH} {d : D} {v : V} {t : Ty} (hh : HRel c r h H) (z : RepD c r H d v) (e : tyD d h = some t) : TyX c.K H v (.type (tyS t)) := by
  have tupX : ∀ (a : Addr) (vs : List V), SqT c.K H a vs → TyX c.K H (.ref a) (.type "tuple") := fun a vs s1 => by
    rcases s1 with (s1 | ⟨o, s1⟩) | ⟨o, its, m, hk, hc, _⟩
    · exact .base (.tup s1)
    · exact .fTuple s1
    · exact .kTuple hk hc
  have dctX : ∀ (a : Addr) (k : Bool) (kvs : List (T × T)), RepDc c r H k kvs a → TyX c.K H (.ref a) (.type "dict") := fun a k kvs zd => by
    unfold RepDc at zd
    cases k with
    | true => obtain ⟨kv, z1, _⟩ := zd; exact .base (.dT z1)
    | false => obtain ⟨kv, z1, _⟩ := zd; exact .base (.dK z1)
  cases d with
  | tl xs => cases e; obtain ⟨a, vs, rfl, z1, _⟩ := z; exact .base (.lst z1)
  | vw xs => cases e; obtain ⟨a, vs, rfl, z1, _⟩ := z; exact .base (.lst z1)
  | dt k kvs => cases e; obtain ⟨a, rfl, z1, _⟩ := z; exact dctX a k kvs z1
  | dv k kvs => cases e; obtain ⟨a, rfl, z1, _⟩ := z; exact dctX a k kvs z1
  | s tt =>
    cases tt with
    | non => cases e
    | bl b => cases e; obtain rfl := z; exact .base (.bl b)
    | int b => cases e; obtain rfl := z; exact .base (.int b)
    | str b => cases e; obtain ⟨rfl, _⟩ := z; exact .base (.str _)
    | tup xs => cases e; obtain ⟨a, vs, rfl, s1, _⟩ := z; exact tupX a vs s1.sq
    | fn f => cases e
    | fl xs =>
      cases e
      obtain ⟨a, vs, rfl, s1, _⟩ := z
      rcases s1 with ⟨o, s1⟩ | ⟨o, its, m, hk, hc, _⟩
      · exact .base (.frz s1)
      · exact .kList hk hc
    | ref m =>
      obtain ⟨a, h1, rfl⟩ := z
      simp only [tyD] at e
      cases q : h[m]? with
      | none => rw [q] at e; cases e
      | some o =>
        rw [q] at e
        have w := hh.ob m a o h1 q
        cases o with
        | lst xs => cases e; obtain ⟨vs, z1, _⟩ := w; exact .base (.lst z1)
        | dct k kvs => cases e; exact dctX a k kvs w
theorem ok_isi (C : Cm c n N sc X) {a : Ex} {t : Ty} {e : Expr} {p1 p2 pos : Pos} (m1 : glB sc "isinstance" = true) (m2 : glB sc (tyNm t) = true) (ha : OkE c n X a e) : OkE c n X (.isi a [t]) (.Call (.Name "isinstance" p1) [e, .Name (tyNm t) p2] [] pos) := by
  obtain ⟨g1, g2⟩ := C.gl m1
  obtain ⟨g3, g4⟩ := C.gl m2
  obtain ⟨b1, b2, b3⟩ := boot_ty t
  have hm : X.mg "isinstance" = none := by rw [C.emg]; exact C.tx.bl _ (by decide +kernel)
  have hm2 : X.mg (tyNm t) = none := by rw [C.emg]; exact C.tx.bl _ b2
  have pt : PE X (.Name (tyNm t) p2) (tC (.ty (tyS t))) := pe_bltn g3 hm2 b1 rfl b3 g4
  refine okE_pe (PE.imp' (pe_callB (id := "isinstance") call_isi g1 hm (by decide +kernel) (pa_cons ha.pe (pa_cons pt pa_nil rfl) (hd_star ha.hd _ _)) (by decide +kernel) g2 (hd_star ha.hd _ _) rfl) fun sv H Q ⟨s, h, r, SR, hh, o⟩ => ?_) rfl (fun _ => rfl)
  simp only [evE] at o
  refine tEx_bd SR hh o fun v H1 d h1 r1 z fr hh1 ee SR1 o1 => ?_
  cases q : isiD d [t] h1 with
  | none => rw [q] at o1; exact o1.elim
  | some b =>
    rw [q] at o1
    have qq : Q (.bl b) H1 := bl_Q o1 hh1 ee
    have non : d = .s .non → b = false → ∃ (x c0 : V) (t0 u : Value) (b0 : Bool), [v, .ty (tyS t)] = [x, c0] ∧ ClsV c0 u ∧ TyX X.K H1 x t0 ∧ PySem.W.kitOne X.K t0 u = some b0 ∧ Q (.bl b0) H1 := fun ed eb => by
      subst ed eb
      obtain rfl := z
      exact ⟨.non, .ty (tyS t), .type "NoneType", .type (tyS t), false, rfl, .ty _, .base .non, kit_ty (kitB_non t), qq⟩
    unfold isiD at q
    split at q
    · cases q; exact non rfl rfl
    · cases q2 : tyD d h1 with
      | none => rw [q2] at q; cases q
      | some t0 =>
        rw [q2] at q
        cases q
        exact ⟨v, .ty (tyS t), .type (tyS t0), .type (tyS t), _, rfl, .ty _, by rw [C.eK]; exact tyX_of hh1 z q2, kit_ty (kitB_ty t0 t), qq⟩
end
end Rm
set_option Elab.async false
set_option linter.all false
set_option autoImplicit false
set_option maxRecDepth 100000
/-! Soundness S: sorted(set(xs)), xs a list of ints. -/
namespace Rm
open PySem PySem.Spec PyProof.Rows L2
/-- a set as it is made -/
abbrev nSet (w : World) : Obj := { cls := .type "set", dict := none, data := .set #[] 0 (.fresh 0 0 (!w.params.followText "set-order")) }
section
variable {P : Program} {w : World} {A : Around} {E : Value → Shared → Prop} {s : Shared}
set_option maxHeartbeats 3200000 in
theorem set_listI {l : Addr} {items : Array Value} (ns : List Int) {Q : Value → Shared → Prop} (hh : A.handled = none) (hl : s.heap.IsList l items) (hit : IntsAre items.toList ns) (hb : ns.length + 1 < scanBound)
    (fin : ∀ (h' : Heap) (tk c : Nat), SetR w h' s.heap.objs.size (fun j => decide (j ∈ ns)) c → c ≤ ns.length → (∀ b o, s.heap.get? b = some o → h'.get? b = some o) → Q (.ref s.heap.objs.size) { s with heap := h', toks := tk }) :
    wpAny (model P w) A (call (.type "set") [.ref l]) Q E s := by
  have hsz : items.size = ns.length := by rw [← IntsAre.length hit, Array.length_toList]
  obtain ⟨c, tl, hmro⟩ := F.called_set.mro
  have m1 := F.called_set.made; have m2 := F.called_set.sub
  apply wpAny_call; apply codeAny_of_tree
  show wpAny _ _ (callAny (.type "set") _) _ _ _
  refine wpAny_pure ⟨Code.quiet_builtin _ (by decide +kernel), ?_⟩; refine codeAny_builtin F.entry_type_call ?_
  rw [Around.under_plain (weight_type_call_type "set" [.ref l] []) rfl]
  have n1 := F.called_set.notType; have n2 := F.called_set.canCreate; have n3 := F.typeCall_set_1 (.ref l)
  repeat (any_goals (first | assumption | wp_step))
  refine codeAny_mono (code_set_led1 (.ref l) (E := E) (Q₁ := fun obj s₁ => obj = .ref s.heap.objs.size ∧ s₁ = { s with heap := s.heap.push (nSet w) }) ⟨rfl, rfl⟩) fun r s₁ hr => ?_
  cases r with
  | error e => exact hr
  | ok fl =>
    cases fl with
    | ret obj =>
      obtain ⟨rfl, rfl⟩ := hr
      have hS : (s.heap.push (nSet w)).get? s.heap.objs.size = some (nSet w) := Heap.get?_push_size _ rfl
      have hT : Shared.TypeIs { s with heap := s.heap.push (nSet w) } (.ref s.heap.objs.size) "set" := ⟨_, hS, rfl⟩
      have q1 := F.called_set.init.lookup; have q2 := F.called_set.init.bind (.ref s.heap.objs.size)
      repeat (any_goals (first | assumption | wp_step))
      refine codeAny_mono (codeAny_call_builtin (R := wants (fun r s₂ => r = .none ∧ ∃ h' tk c, s₂ = { s with heap := h', toks := tk } ∧ SetR w h' s.heap.objs.size (fun j => decide (j ∈ ns)) c ∧ c ≤ ns.length ∧ (∀ b o, s.heap.get? b = some o → h'.get? b = some o)) E) F.called_set.init.plain F.entry_set_init (check_set_init_1 hT ?_)) fun r₂ s₂ hr₂ => ?_
      · obtain ⟨⟨ocls, odict, odata, oslots⟩, hol, hcl, nl, hdl⟩ := hl
        simp only at hcl hdl; subst hcl hdl
        have hol' : (s.heap.push (nSet w)).get? l = some { cls := .type "list", dict := odict, data := .seq items nl, slots := oslots } := Heap.get?_push_of_some _ hol
        have u1 := F.sub_list_set; have u2 := F.sub_list_frozenset
        have u3 : (Value.type "list" == Value.type "dict") = false := by decide
        have hl1 : (s.heap.push (nSet w)).IsList l items := ⟨_, hol', rfl, nl, rfl⟩
        unfold Builtin.«set.__init__» noKeywords Builtin.Frozenset.updateFrom
        generalize hPI : pyIter = PI
        wp_walk
        subst hPI
        refine wpAny_pyIter_list hl1 ?_
        apply wpAny_bind; apply wpAny_runValue
        have hlS : l < s.heap.objs.size := Heap.lt_size hol
        have hh3 : A.in1.in1.in1.handled = none := by simp [hh]
        have hz1 : (s.heap.push (nSet w)).objs.size = s.heap.objs.size + 1 := Heap.size_push ..
        have hneI : l ≠ (s.heap.push (nSet w)).objs.size := by rw [hz1]; exact Nat.ne_of_lt (Nat.lt_succ_of_lt hlS)
        have hSf : s.heap.objs.size ∉ [(s.heap.push (nSet w)).objs.size, l] := by
          rw [hz1]; intro m
          rcases List.mem_cons.mp m with q | q
          · exact Nat.ne_of_lt (Nat.lt_succ_self _) q
          · exact Nat.ne_of_gt hlS (List.mem_singleton.mp q)
        have hval : ∀ (i : Nat) (v : Value), items[i]? = some v → ∃ k t, ns[i]? = some k ∧ v = .int k t := fun i v hv => by
          have hi : i < ns.length := by rw [← hsz]; exact (Array.getElem?_eq_some_iff.mp hv).1
          obtain ⟨t, e⟩ := IntsAre.int_at hit i v (by rw [Array.getElem?_toList]; exact hv)
          exact ⟨ns[i], t, List.getElem?_eq_getElem hi, by rw [e, List.getD_eq_getElem?_getD, List.getElem?_eq_getElem hi]; rfl⟩
        refine set_update_ints (Walks.list hh3 _ l hneI items).toS s.heap.objs.size hSf ns hsz hb hval (items.size - 0) 0 _ (by omega) (Nat.zero_le _) ⟨⟨_, Heap.get?_push_size _ rfl, rfl, rfl⟩, hl1.push _⟩ ⟨0, Nat.le_refl 0, setR_new_at (Heap.get?_push_of_some _ hS)⟩ ?_
        intro s' c' hm hc' hS'
        obtain ⟨h', g2, d', tk', os'⟩ := s'
        obtain rfl : g2 = s.gens := hm.gens
        obtain rfl : d' = s.drawn := hm.drawn
        obtain rfl : os' = s.os := hm.os
        refine wpAny_pure (wpAny_pure ⟨rfl, h', tk', c', rfl, hS', by rw [← hsz]; exact hc', fun b o e => ?_⟩)
        have hb0 : b < s.heap.objs.size := Heap.lt_size e
        refine hm.heap b o (fun m => ?_) (Heap.get?_push_of_some _ (Heap.get?_push_of_some _ e))
        rw [hz1] at m
        rcases List.mem_cons.mp m with q | q
        · exact Nat.ne_of_lt hb0 q
        · exact Nat.ne_of_lt (Nat.lt_succ_of_lt hb0) (List.mem_singleton.mp q)
      · cases r₂ with
        | error e => exact hr₂
        | ok fl₂ =>
          cases fl₂ with
          | ret r =>
            obtain ⟨rfl, h', tk, c', rfl, k1, k2, k3⟩ := hr₂
            repeat (any_goals (first | assumption | wp_step))
            exact fin _ _ _ k1 k2 k3
          | _ => exact hr₂.elim
    | _ => exact hr.elim
end
section
variable {c : Tx} {X : Cx}
/-- set(xs), xs a list of ints -/
def rSetOfL (K : PySem.W.Frag) (w : World) : List V → Hp → VK → Prop := fun vs H Q => ∃ (a : Addr) (ns : List Int), vs = [V.ref a] ∧ SqL K H a (ns.map V.int) ∧ ns.length < 64 ∧
  ∀ (p : Addr) (m : Nat), m ≤ ns.length → H p = none → Q (.ref p) (upd H p (SetO w p (fun j => decide (j ∈ ns)) m))
theorem cr_setOfL (hc : X.calm = true) : CallR X (.type "set") (rSetOfL X.K X.w) := by
  intro pins s σ H xs us Q I r h
  obtain ⟨a, ns, rfl, hs, h64, q⟩ := h
  obtain ⟨its, rv, hl, hz⟩ := I.list hs
  rw [Vals.ref1 r]
  refine set_listI ns (I.ok.hd hc) hl.isList (by simpa using rv.ints) (by unfold scanBound; omega) fun h' tk m R hm k => ?_
  exact ⟨.ref _, upd H s.heap.objs.size (SetO X.w s.heap.objs.size (fun j => decide (j ∈ ns)) m), I.laid (t' := tk) (fun b u e => k b u e) (Nat.le_refl _) (setO_new R), rfl, q _ m hm (I.hok.fresh (Nat.le_refl _))⟩
end
theorem insU_mem (x z : Int) : ∀ l : List Int, z ∈ insU x l ↔ z = x ∨ z ∈ l
  | [] => by simp [insU]
  | y :: l => by
    unfold insU
    split
    · simp
    · split
      · rename_i e; subst e
        simp
      · simp only [List.mem_cons, insU_mem x z l]
        constructor
        · rintro (h | h | h)
          · exact .inr (.inl h)
          · exact .inl h
          · exact .inr (.inr h)
        · rintro (h | h | h)
          · exact .inr (.inl h)
          · exact .inl h
          · exact .inr (.inr h)
theorem insU_srt (x : Int) : ∀ l : List Int, l.Pairwise (· < ·) → (insU x l).Pairwise (· < ·)
  | [], _ => by simp [insU]
  | y :: l, h => by
    unfold insU
    rw [List.pairwise_cons] at h
    split
    · rename_i q
      rw [List.pairwise_cons]
      refine ⟨fun z hz => ?_, List.pairwise_cons.mpr h⟩
      rcases List.mem_cons.mp hz with rfl | hz
      · exact q
      · exact Int.lt_trans q (h.1 z hz)
    · split
      · exact List.pairwise_cons.mpr h
      · rw [List.pairwise_cons]
        refine ⟨fun z hz => ?_, insU_srt x l h.2⟩
        rcases (insU_mem x z l).mp hz with rfl | hz
        · omega
        · exact h.1 z hz
theorem srtU_mem (z : Int) : ∀ l : List Int, z ∈ srtU l ↔ z ∈ l
  | [] => by simp [srtU]
  | x :: l => by simp only [srtU, insU_mem, srtU_mem z l, List.mem_cons]
theorem srtU_srt : ∀ l : List Int, (srtU l).Pairwise (· < ·)
  | [] => List.Pairwise.nil
  | x :: l => insU_srt x _ (srtU_srt l)
theorem srtU_uniq : ∀ {l m : List Int}, l.Pairwise (· < ·) → m.Pairwise (· < ·) → (∀ z, z ∈ l ↔ z ∈ m) → l = m
  | [], [], _, _, _ => rfl
  | [], y :: m, _, _, e => by have := (e y).mpr (List.mem_cons_self ..); cases this
  | x :: l, [], _, _, e => by have := (e x).mp (List.mem_cons_self ..); cases this
  | x :: l, y :: m, h, h', e => by
    rw [List.pairwise_cons] at h h'
    have exy : x = y := by
      rcases List.mem_cons.mp ((e x).mp (List.mem_cons_self ..)) with a | a
      · exact a
      · rcases List.mem_cons.mp ((e y).mpr (List.mem_cons_self ..)) with b | b
        · exact b.symm
        · have := h'.1 x a; have := h.1 y b; omega
    subst exy
    rw [srtU_uniq h.2 h'.2 fun z => ?_]
    constructor
    · intro hz
      rcases List.mem_cons.mp ((e z).mp (List.mem_cons_of_mem _ hz)) with a | a
      · have := h.1 z hz; omega
      · exact a
    · intro hz
      rcases List.mem_cons.mp ((e z).mpr (List.mem_cons_of_mem _ hz)) with a | a
      · have := h'.1 z hz; omega
      · exact a
section
variable {c : Tx} {n : Nat} {X : Cx} {N : List Str} {sc : Scope}
/-- sorted(set(e)) -/
theorem ok_sset (C : Cm c n N sc X) {a : Ex} {e : Expr} {p p2 pos pos2 : Pos} (m1 : glB sc "sorted" = true) (m2 : glB sc "set" = true) (ha : OkE c n X a e) : OkE c n X (.sp .sset [a]) (.Call (.Name "sorted" p) [.Call (.Name "set" p2) [e] [] pos2] [] pos) := by
  obtain ⟨g1, g2⟩ := C.gl m1
  obtain ⟨g3, g4⟩ := C.gl m2
  have hm : X.mg "sorted" = none := by rw [C.emg]; exact C.tx.bl _ (by decide +kernel)
  have hm2 : X.mg "set" = none := by rw [C.emg]; exact C.tx.bl _ (by decide +kernel)
  have ps : PE X (.Call (.Name "set" p2) [e] [] pos2) (tCB (rSetOfL X.K X.w) (tCons (tEx c n a) tNil)) :=
    pe_callTy (cr_setOfL C.calm) g3 hm2 (by decide +kernel) (pa_cons ha.pe pa_nil (hd_star ha.hd _ _)) (by decide +kernel) g4 (hd_star ha.hd _ _) rfl
  refine okE_pe (PE.imp' (pe_callB (id := "sorted") (cr_sortedSet C.calm) g1 hm (by decide +kernel) (pa_cons ps pa_nil rfl) (by decide +kernel) g2 rfl rfl) fun sv H Q ⟨s, h, r, SR, hh, o⟩ => ?_) rfl (fun _ => rfl)
  simp only [evE, evL, bd_assoc, bd_ok] at o
  refine tEx_bd SR hh o fun v H1 d h1 r1 z fr hh1 ee SR1 o1 => ?_
  obtain ⟨d2, e2, q2⟩ := Out.some (o1.mv bk_D ee)
  simp only [spD] at e2
  unfold ssD at e2
  split at e2
  · rename_i ts e3
    split at e2
    · rename_i is e4
      split at e2
      · rename_i h64
        cases e2
        have h64 := of_decide_eq_true h64
        obtain ⟨b, vs, rfl, s1, t1⟩ := lst_read z hh1 e3
        rw [← C.eK, ints_V t1 e4] at s1
        refine ⟨b, is, rfl, s1, h64, fun p3 mm hmm hp => ?_⟩
        refine ⟨p3, _, mm, rfl, upd_same, by omega, fun ns p4 hs hmem hl hp4 => ?_⟩
        have en : ns = srtU is := srtU_uniq hs (srtU_srt is) fun k => by rw [hmem, srtU_mem]; simp
        subst en
        have ex : Ext c r1 H1 r1 (upd H1 p3 (SetO X.w p3 (fun j => decide (j ∈ is)) mm)) := Ext.new hp
        have q3 := Out.mv bk_D (show Out c (rD c) r1 H1 (.ok (.tl ((srtU is).map T.int)) h1) Q from q2) ex
        exact fin_tl q3 (hh1.new hp) hp4 (rep_ints _)
      · cases e2
    · cases e2
  · cases e2
/-- a thing that is laid into the logical heap -/
theorem ok_fx {a : Ex} {e : Expr} (ha : OkE c n X a e) : OkE c n X (.fx a) e := by
  refine ⟨PE.imp' ha.pe fun sv H Q ⟨s, h, r, SR, hh, o⟩ => ?_, PT.imp' ha.pt fun sv H Q ⟨s, h, r, SR, hh, o⟩ => ?_, ha.hd⟩
  · simp only [evE] at o
    refine tEx_bd SR hh o fun v H1 d h1 r1 z fr hh1 ee SR1 o1 => ?_
    obtain ⟨t, h2, r2, zt, hh2, ee2, o2⟩ := fix_step ee z fr hh1 o1
    exact o2 v r2 H1 ⟨zt, fun e => by cases e⟩ hh2 ee2
  · simp only [evE, bd_assoc] at o
    refine ⟨s, h, r, SR, hh, ?_⟩
    cases q : evE c.P (callF c.P n) a s h with
    | exc x y => rw [q] at o; exact o
    | bad => rw [q] at o; exact o
    | ok d h1 =>
      rw [q] at o
      simp only [bd_ok] at o ⊢
      cases d with
      | s t => exact o
      | tl xs => exact o.elim
      | vw xs => exact o.elim
      | dt k kvs => exact o.elim
      | dv k kvs => exact o.elim
/-- e[::-1] of a list -/
theorem ok_rev (C : Cm c n N sc X) {a : Ex} {e : Expr} {k : Nat} {p1 p2 p3 pos : Pos} (ha : OkE c n X a e) : OkE c n X (.sp .rev [a]) (.Subscript e (.Slice none none (some (.UnaryOp .USub (.Constant (.int 1) k p1) p2)) p3) pos) := by
  refine okE_pe (PE.imp' (pe_revL ha.pe) fun sv H Q ⟨s, h, r, SR, hh, o⟩ => ?_) rfl (fun _ => rfl)
  simp only [evE, evL, bd_assoc, bd_ok] at o
  refine tEx_bd SR hh o fun v H1 d h1 r1 z fr hh1 ee SR1 o1 => ?_
  obtain ⟨d2, e2, q2⟩ := Out.some (o1.mv bk_D ee)
  simp only [spD, revD] at e2
  cases e3 : lstOf d h1 with
  | none => rw [e3] at e2; cases e2
  | some ts =>
    rw [e3] at e2
    cases e2
    obtain ⟨b, vs, rfl, s1, t1⟩ := lst_read z hh1 e3
    rw [← C.eK] at s1
    refine ⟨b, vs, rfl, s1, fun p hp => fin_tl q2 hh1 hp ?_⟩
    clear q2 s1 hp
    have rv : ∀ {xs : List T} {ws : List V}, RepTs c r1 H1 xs ws → RepTs c r1 H1 xs.reverse ws.reverse := by
      intro xs
      induction xs with
      | nil => intro ws q; rw [show ws = [] from q]; rfl
      | cons x xs ih =>
        intro ws q
        obtain ⟨u, us, rfl, w1, w2⟩ := q
        rw [List.reverse_cons, List.reverse_cons]
        exact RepTs.append (ih w2) ⟨u, [], rfl, w1, rfl⟩
    exact rv t1
end
end Rm
set_option Elab.async false
set_option linter.all false
set_option autoImplicit false
set_option maxRecDepth 100000
/-! Soundness 10: what is walked, comprehensions. -/
namespace Rm
open PySem PySem.Spec PyProof.Rows L2
section
variable {c : Tx} {n : Nat} {X : Cx} {N : List Str} {sc : Scope}
def iListZ (K : PySem.W.Frag) (tl : TE) : TI := fun σ H R => tl σ H fun x H1 => ∃ a xs, x = .ref a ∧ SqL K H1 a xs ∧ (xs.length ≤ sizeLine → R (Itl K a) H1)
def iTupZ (K : PySem.W.Frag) (tl : TE) : TI := fun σ H R => tl σ H fun x H1 => ∃ a xs, x = .ref a ∧ SqT K H1 a xs ∧ (xs.length ≤ sizeLine → R (Itt K a) H1)
theorem pi_listZ {tg l : Expr} {tl : TE} (hl : PE X l tl) : PI X tg l (iListZ X.K tl) := by
  refine ⟨fun pins s σ H R I h => ?_⟩
  refine thn (hl.run pins s σ H _ I h) fun v s1 ⟨x, H1, I1, r1, q1⟩ => ?_
  obtain ⟨a, xs, e, hq, q⟩ := q1
  subst e
  cases r1
  obtain ⟨its, rv, p, hz⟩ := I1.list hq
  refine wpAny_pyIter_list p.isList ?_
  refine ⟨s1.heap.objs.size, [s1.heap.objs.size], _, _, H1, rfl, I1.kept (t' := s1.toks) fun b o e => Heap.get?_push_of_some _ e, turn_list a _, ⟨_, Heap.get?_push_size _ rfl, rfl, rfl⟩, fun b hb => ?_, q hz⟩
  have e : b = s1.heap.objs.size := by simpa using hb
  subst e
  exact I1.fpOk (Nat.le_refl _) (I1.hok.fresh (Nat.le_refl _))
theorem pi_tupZ {tg l : Expr} {tl : TE} (hl : PE X l tl) : PI X tg l (iTupZ X.K tl) := by
  refine ⟨fun pins s σ H R I h => ?_⟩
  refine thn (hl.run pins s σ H _ I h) fun v s1 ⟨x, H1, I1, r1, q1⟩ => ?_
  obtain ⟨a, xs, e, hq, q⟩ := q1
  subst e
  cases r1
  obtain ⟨its, rv, p, hz⟩ := I1.tuple hq
  refine wpAny_pyIter_tuple (show s1.heap.IsTuple a its.toArray from p) ?_
  refine ⟨s1.heap.objs.size, [s1.heap.objs.size], _, _, H1, rfl, I1.kept (t' := s1.toks) fun b o e => Heap.get?_push_of_some _ e, turn_tuple a _, ⟨_, Heap.get?_push_size _ rfl, rfl, rfl⟩, fun b hb => ?_, q hz⟩
  have e : b = s1.heap.objs.size := by simpa using hb
  subst e
  exact I1.fpOk (Nat.le_refl _) (I1.hok.fresh (Nat.le_refl _))
theorem Gd.tmp {xs : List T} {gs : List Nat} {J : It} {r : List Addr} {h : LH} {H : Hp} {t t' : Addr → Prop} {G : List Addr → LH → Hp → Prop} (g : Gd c xs gs J r h H t G) (f : ∀ a, t a → t' a) : Gd c xs gs J r h H t' G :=
  ⟨g.goes, g.stops, g.yields, fun W r h H hW => g.keep W r h H fun a ha => hW a (f a ha)⟩
/-- the kinds of what is walked by itself -/
def KL (c : Tx) (p : List T × List Nat) (r : List Addr) (h : LH) (H : Hp) (tmp : Addr → Prop) (v : V) : Prop := ∃ (a : Addr) (vs : List V) (G : List Addr → LH → Hp → Prop), v = .ref a ∧ SqL c.K H a vs ∧ p.1.length = vs.length ∧ Gd c p.1 p.2 (Itl c.K a) r h H tmp G
def KT' (c : Tx) (p : List T × List Nat) (r : List Addr) (h : LH) (H : Hp) (tmp : Addr → Prop) (v : V) : Prop := ∃ (a : Addr) (vs : List V) (G : List Addr → LH → Hp → Prop), v = .ref a ∧ SqT c.K H a vs ∧ p.1.length = vs.length ∧ Gd c p.1 p.2 (Itt c.K a) r h H tmp G
def KS (c : Tx) (p : List T × List Nat) (r : List Addr) (h : LH) (H : Hp) (tmp : Addr → Prop) (v : V) : Prop := ∃ (z : Str) (G : List Addr → LH → Hp → Prop), v = .str z ∧ p.1.length ≤ sizeLine ∧ Gd c p.1 p.2 (Its z) r h H tmp G
/-- what must be known of the value: it is d's, new where d is owned, the slot's where a is a name -/
structure Got (c : Tx) (a : Ex) (d : D) (h : LH) (H0 : Hp) (s : Sg) (sv : L2.St) (v : V) (r : List Addr) (H : Hp) : Prop where
  z : RepD c r H d v
  fr : Frs H0 d v
  hh : HRel c r h H
  hv : ∀ i, a = .v i → ∃ d', s[i]? = some (some d') ∧ sv[i]? = some (some v) ∧ d = lend d'
theorem kd_of {a : Ex} {d : D} {h : LH} {p : List T × List Nat} {H0 : Hp} {s : Sg} {sv : L2.St} (e : itX a d h = some p) :
    (∀ v r H, Got c a d h H0 s sv v r H → KL c p r h H (Tmp H0 (slotE a) s sv) v) ∨ (∀ v r H, Got c a d h H0 s sv v r H → KT' c p r h H (Tmp H0 (slotE a) s sv) v) ∨ (∀ v r H, Got c a d h H0 s sv v r H → KS c p r h H (Tmp H0 (slotE a) s sv) v) := by
  unfold itX at e
  split at e
  · rename_i xs
    split at e
    · rename_i i
      cases e
      refine .inl fun v r H g => ?_
      obtain ⟨b, vs, rfl, z1, z2, nb⟩ := g.z
      obtain ⟨d', e1, e2, e3⟩ := g.hv i rfl
      refine ⟨b, vs, _, rfl, .inl (.inl z1), z2.length.symm, (gd_lst z1 nb z2).tmp fun b' hb => ?_⟩
      subst hb
      exact .inr ⟨i, d', by simp [slotE], e1, e2, xs, e3.symm⟩
    · cases e
  · rename_i hn
    cases d with
    | vw xs => exact absurd rfl (hn xs)
    | dt k kvs => cases e
    | dv k kvs => cases e
    | tl xs =>
      cases e
      refine .inl fun v r H g => ?_
      obtain ⟨b, vs, rfl, z1, z2, nb⟩ := g.z
      refine ⟨b, vs, _, rfl, .inl (.inl z1), z2.length.symm, (gd_lst z1 nb z2).tmp fun b' hb => ?_⟩
      subst hb
      exact .inl (g.fr rfl _ rfl)
    | s t =>
      cases t with
      | tup xs =>
        cases e
        refine .inr (.inl fun v r H g => ?_)
        obtain ⟨b, vs, rfl, s1, t1⟩ := g.z
        exact ⟨b, vs, _, rfl, s1.sq, t1.length.symm, gd_tup s1.sq t1 _⟩
      | fl xs =>
        cases e
        refine .inl fun v r H g => ?_
        obtain ⟨b, vs, rfl, s1, t1⟩ := g.z
        exact ⟨b, vs, _, rfl, s1.sq, t1.length.symm, gd_fl s1 t1 _⟩
      | str cs =>
        cases e
        refine .inr (.inr fun v r H g => ?_)
        obtain ⟨rfl, hl⟩ := g.z
        exact ⟨_, _, rfl, by rw [List.length_map]; exact hl, gd_str hl _⟩
      | ref m =>
        simp only [itOf] at e
        cases q : h[m]? with
        | none => rw [q] at e; cases e
        | some o =>
          rw [q] at e
          cases o with
          | lst xs =>
            cases e
            refine .inl fun v r H g => ?_
            obtain ⟨b, h1, rfl⟩ := g.z
            have w := g.hh.ob m b _ h1 q
            obtain ⟨vs, z1, z2⟩ := w
            exact ⟨b, vs, _, rfl, .inl (.inl z1), z2.length.symm, gd_ref h1 q _⟩
          | dct k kvs => cases e
      | _ => cases e
/-- a name's value is the one of its slot -/
theorem v_slot {a : Ex} {s : Sg} {h h1 : LH} {d : D} {i : Nat} (e : evE c.P (callF c.P n) a s h = .ok d h1) (ea : a = .v i) : ∃ d', s[i]? = some (some d') ∧ d = lend d' := by
  subst ea
  simp only [evE] at e
  split at e
  · rename_i d' q
    cases e
    exact ⟨d', q, rfl⟩
  · cases e
/-- the reading of an expression that is walked, with all that is known -/
structure OkW (c : Tx) (n : Nat) (X : Cx) (x : Ex) (e : Expr) (te : TE) : Prop where
  pe : PE X e te
  rd : ∀ {s : Sg} {h h1 : LH} {r : List Addr} {sv : L2.St} {H : Hp} {d : D} {Q : VK}, SRel c r H s sv → HRel c r h H → evE c.P (callF c.P n) x s h = .ok d h1 → (∀ v r1 H1, Got c x d h1 H s sv v r1 H1 → Ext c r H r1 H1 → Q v H1) → te sv H Q
theorem okW_e {x : Ex} {e : Expr} (ha : OkE c n X x e) (hx : ∀ i, x ≠ .v i) : OkW c n X x e (tEx c n x) :=
  ⟨ha.pe, fun {s h h1 r sv H d Q} SR hh q k => ⟨s, h, r, SR, hh, by rw [q]; exact fun v r1 H1 w hh1 ee => k v r1 H1 ⟨w.1, w.2, hh1, fun i ei => absurd ei (hx i)⟩ ee⟩⟩
theorem okW_v (C : Cm c n N sc X) {i : Nat} {x : Str} {pos : Pos} (m : (decide (N[i]? = some x) && visB sc x) = true) : OkW c n X (.v i) (.Name x pos) (tVar i) := by
  obtain ⟨m1, m2⟩ := Bool.and_eq_true_iff.mp m
  have m1 := of_decide_eq_true m1
  obtain ⟨v1, v2, v3⟩ := C.vis m2
  refine ⟨pe_var (X := X) (i := i) (by rw [C.eN]; exact m1) v1 v2 v3, fun {s h h1 r sv H d Q} SR hh q k => ?_⟩
  simp only [evE] at q
  split at q
  · rename_i d' q'
    cases q
    obtain ⟨v, e1, e2⟩ := SR.val i d' q'
    refine ⟨v, e1, k v r H ⟨?_, fun e => ?_, hh, fun j ej => ?_⟩ Ext.refl⟩
    · cases d' <;> exact e2
    · cases d' <;> cases e
    · cases ej
      exact ⟨d', q', e1, rfl⟩
  · cases q
theorem ok_Ie (C : Cm c n N sc X) {a : Ex} {tg e : Expr} {te : TE} (ha : OkW c n X a e te) : PI X tg e (tIx c n (.e a)) := by
  refine ⟨fun pins s0 σ H Rr I z => ?_⟩
  obtain ⟨s, h, r, SR, hh, o⟩ := z
  simp only [evI] at o
  cases q : evE c.P (callF c.P n) a s h with
  | exc x y => rw [q] at o; exact o.elim
  | bad => rw [q] at o; exact o.elim
  | ok d h1 =>
    rw [q, bd_ok] at o
    cases q2 : itX a d h1 with
    | none => rw [q2] at o; exact o.elim
    | some p =>
      rw [q2, toR_some] at o
      rcases kd_of (c := c) (H0 := H) (s := s) (sv := σ) q2 with k | k | k
      · refine (pi_listZ ha.pe).run pins s0 σ H Rr I (ha.rd SR hh q fun v r1 H1 g ee => ?_)
        obtain ⟨b, vs, G, rfl, s1, el, gd⟩ := k v r1 H1 g
        refine ⟨b, vs, rfl, by rw [C.eK]; exact s1, fun hz => ?_⟩
        rw [C.eK]
        exact o _ r1 H1 G gd (by omega) g.hh ee
      · refine (pi_tupZ ha.pe).run pins s0 σ H Rr I (ha.rd SR hh q fun v r1 H1 g ee => ?_)
        obtain ⟨b, vs, G, rfl, s1, el, gd⟩ := k v r1 H1 g
        refine ⟨b, vs, rfl, by rw [C.eK]; exact s1, fun hz => ?_⟩
        rw [C.eK]
        exact o _ r1 H1 G gd (by omega) g.hh ee
      · refine (pi_str ha.pe).run pins s0 σ H Rr I (ha.rd SR hh q fun v r1 H1 g ee => ?_)
        obtain ⟨z, G, rfl, hl, gd⟩ := k v r1 H1 g
        exact ⟨z, rfl, o _ r1 H1 G gd hl g.hh ee⟩
theorem evL_len {s : Sg} : ∀ {xs : List Ex} {h h1 : LH} {ds : List D}, evL c.P (callF c.P n) xs s h = .ok ds h1 → xs.length = ds.length
  | [], h, h1, ds, q => by simp only [evL] at q; cases q; rfl
  | x :: xs, h, h1, ds, q => by
    simp only [evL] at q
    cases q1 : evE c.P (callF c.P n) x s h with
    | exc _ _ => rw [q1] at q; cases q
    | bad => rw [q1] at q; cases q
    | ok d h2 =>
      rw [q1, bd_ok] at q
      cases q3 : evL c.P (callF c.P n) xs s h2 with
      | exc _ _ => rw [q3] at q; cases q
      | bad => rw [q3] at q; cases q
      | ok ds' h3 =>
        rw [q3, bd_ok] at q
        cases q
        rw [List.length_cons, List.length_cons, evL_len q3]
theorem ok_Irng (C : Cm c n N sc X) {xs : List Ex} {es : List Expr} {tg : Expr} {p pos : Pos} (m : glB sc "range" = true) (ha : All2 c n X xs es) : PI X tg (.Call (.Name "range" p) es [] pos) (tIx c n (.rng xs)) := by
  obtain ⟨g1, g2⟩ := C.gl m
  have hm : X.mg "range" = none := by rw [C.emg]; exact C.tx.bl _ (by decide +kernel)
  refine ⟨fun pins s0 σ H Rr I z => ?_⟩
  obtain ⟨s, h, r, SR, hh, o⟩ := z
  simp only [evI] at o
  cases q : evL c.P (callF c.P n) xs s h with
  | exc x y => rw [q] at o; exact o.elim
  | bad => rw [q] at o; exact o.elim
  | ok ds h1 =>
    rw [q, bd_ok] at o
    cases q2 : rngD ds with
    | none => rw [q2] at o; exact o.elim
    | some ts =>
      rw [q2, toR_some, bd_ok] at o
      have rd : ∀ Q : List V → Hp → Prop, (∀ vs r1 H1, RepDs c r1 H1 ds vs → HRel c r1 h1 H1 → Ext c r H r1 H1 → Q vs H1) → tLx c n xs σ H Q := fun Q k => ⟨s, h, r, SR, hh, by rw [q]; exact fun vs r1 H1 w hh1 ee => k vs r1 H1 w hh1 ee⟩
      have lens : xs.length = ds.length := evL_len q
      unfold rngD at q2
      split at q2
      · split at q2
        · rename_i hz
          cases q2
          obtain ⟨hz1, hz2⟩ := Bool.and_eq_true_iff.mp hz
          have hz1 := of_decide_eq_true hz1
          have hz2 := of_decide_eq_true hz2
          cases ha with
          | nil => cases lens
          | cons a1 a2 =>
            cases a2 with
            | cons b1 b2 => cases lens
            | nil =>
              refine (pi_range1 g1 hm (pa_L (.cons a1 .nil)) (hd_star a1.hd _ _)).run pins s0 σ H Rr I (rd _ fun vs r1 H1 w0 hh1 ee => ?_)
              obtain ⟨v, rfl, w⟩ := w0.one
              obtain rfl := w
              refine ⟨_, rfl, by omega, by omega, o _ r1 H1 _ (gd_rng _) ?_ hh1 ee⟩
              unfold rngT
              rw [List.length_map, List.length_range, sizeLine_eq]
              omega
        · cases q2
      · split at q2
        · rename_i hz
          cases q2
          obtain ⟨z1, z2, z3, z4, z5⟩ := of_decide_eq_true hz
          cases ha with
          | nil => cases lens
          | cons a1 a2 =>
            cases a2 with
            | nil => cases lens
            | cons b1 b2 =>
              cases b2 with
              | cons c1 c2 => cases lens
              | nil =>
                have st1 := hd_star b1.hd [] X.env
                refine (pi_range2 g1 hm (pa_L (.cons a1 (.cons b1 .nil))) (by rw [hd_star a1.hd, st1]; rfl) st1).run pins s0 σ H Rr I (rd _ fun vs r1 H1 w0 hh1 ee => ?_)
                obtain ⟨v, v', rfl, w, w'⟩ := w0.two
                obtain rfl := w
                obtain rfl := w'
                refine ⟨_, _, rfl, ⟨by omega, by omega, by omega, by omega⟩, o _ r1 H1 _ (gd_rng _) ?_ hh1 ee⟩
                unfold rngT
                rw [List.length_map, List.length_range, sizeLine_eq]
                omega
        · cases q2
      · cases q2
/-! ### targets -/
mutual
def gTg (c : Tx) : Tg → TG
  | .n i => gName i
  | .t ts => gTup c.K ts.length (gTgs c ts)
def gTgs (c : Tx) : List Tg → TGs
  | [] => gNil
  | t :: ts => gCons (gTg c t) (gTgs c ts)
end
theorem loc_of {x : Str} (m : locB sc x = true) : sc.names.lookup x = some .local ∨ sc.names.lookup x = some .cell := by
  unfold locB at m
  simpa using m
mutual
theorem pg_ok (eK : X.K = c.K) (eN : X.N = N) (hloc : ∀ x, locB sc x = true → L2.Loc X.env.scope x) (hc : X.calm = true) (nd : N.Nodup) (hfn : ∀ x, locB sc x = true → X.fn x = true ∨ X.env.scope.names.lookup x = some .local) (own : List Nat) : ∀ (t : Tg) (e : Expr), mG N own sc t e = true → PG X e (gTg c t)
  | .n i, .Name x pos, m => by
    simp only [mG, Bool.and_eq_true] at m
    obtain ⟨⟨m1, m2⟩, _⟩ := m
    exact pg_name (by rw [eN]; exact nd) (by rw [eN]; exact of_decide_eq_true m1) (hloc x m2) (hfn x m2)
  | .t ts, .Tuple es k pos, m => by
    have ih := pgs_ok eK eN hloc hc nd hfn own ts es m
    have := pg_tup (k := k) (pos := pos) (n := ts.length) hc ih.1 ih.2.1 ih.2.2
    rw [eK] at this
    exact this
theorem pgs_ok (eK : X.K = c.K) (eN : X.N = N) (hloc : ∀ x, locB sc x = true → L2.Loc X.env.scope x) (hc : X.calm = true) (nd : N.Nodup) (hfn : ∀ x, locB sc x = true → X.fn x = true ∨ X.env.scope.names.lookup x = some .local) (own : List Nat) : ∀ (ts : List Tg) (es : List Expr), mGs N own sc ts es = true → PGs X es (gTgs c ts) ∧ (assignEach es X.env).length = ts.length ∧ (assignEach es X.env).findIdx? (·.1) = none
  | [], [], _ => ⟨pgs_nil, rfl, rfl⟩
  | t :: ts, e :: es, m => by
    simp only [mGs, Bool.and_eq_true] at m
    have h1 := pg_ok eK eN hloc hc nd hfn own t e m.1
    obtain ⟨i1, i2, i3⟩ := pgs_ok eK eN hloc hc nd hfn own ts es m.2
    have ea : assignEach (e :: es) X.env = (false, assign e X.env) :: assignEach es X.env := by
      cases e <;> first | rfl | (cases t <;> (simp [mG] at m))
    refine ⟨pgs_cons h1 i1 (by rw [ea]; rfl), by rw [ea, List.length_cons, List.length_cons, i2], ?_⟩
    rw [ea, List.findIdx?_cons, i3]
    rfl
end
end
end Rm
set_option Elab.async false
set_option linter.all false
set_option autoImplicit false
set_option maxRecDepth 100000
/-! Soundness 11: comprehensions. -/
namespace Rm
open PySem PySem.Spec PyProof.Rows L2
mutual
def tgIs : Tg → List Nat
  | .n i => [i]
  | .t ts => tgsIs ts
def tgsIs : List Tg → List Nat
  | [] => []
  | t :: ts => tgIs t ++ tgsIs ts
end
section
variable {c : Tx} {n : Nat} {X : Cx} {N : List Str} {sc : Scope} {r r' : List Addr} {H H' : Hp} {h : LH}
/-- names bound to data: those of is, the others as they were -/
structure Bd (c : Tx) (r : List Addr) (H : Hp) (is : List Nat) (s : Sg) (sv : L2.St) (s' : Sg) (sv' : L2.St) : Prop where
  l1 : s'.length = s.length
  l2 : sv'.length = sv.length
  out : ∀ i, i ∉ is → s'[i]? = s[i]? ∧ sv'[i]? = sv[i]?
  inn : ∀ (i : Nat) (d : D), i ∈ is → s'[i]? = some (some d) → (∃ t v, d = .s t ∧ sv'[i]? = some (some v) ∧ RepT c r H t v) ∨ (s[i]? = some (some d) ∧ sv'[i]? = sv[i]?)
mutual
theorem bind_run : ∀ (tg : Tg) (t : T) (v : V) (s s' : Sg) (sv : L2.St) (Q : L2.St → Hp → Prop), RepT c r H t v → s.length = sv.length → bindG tg t s = some s' → (∀ sv', Bd c r H (tgIs tg) s sv s' sv' → Q sv' H) → gTg c tg v sv H Q
  | .n i, t, v, s, s', sv, Q, z, hl, e, k => by
    simp only [bindG] at e
    cases e
    refine k (sv.set i (some v)) ⟨by simp, by simp, fun j hj => ?_, fun j d hj e => ?_⟩
    · have : i ≠ j := fun z => hj (by simp [tgIs, z])
      rw [List.getElem?_set_ne this, List.getElem?_set_ne this]
      exact ⟨rfl, rfl⟩
    · have ej : j = i := by simpa [tgIs] using hj
      subst ej
      have hlt : j < s.length := by
        have := (List.getElem?_eq_some_iff.mp e).1
        simpa using this
      rw [List.getElem?_set_self hlt] at e
      cases e
      exact .inl ⟨t, v, rfl, by rw [List.getElem?_set_self (by omega)], z⟩
  | .t ts, t, v, s, s', sv, Q, z, hl, e, k => by
    cases t with
    | tup xs =>
      obtain ⟨a, vs, rfl, s1, t1⟩ := z
      simp only [bindG] at e
      have len := binds_len ts xs s s' e
      exact ⟨a, vs, rfl, s1.sq, by rw [t1.length]; exact len, binds_run ts xs vs s s' sv Q t1 hl e k⟩
    | _ => simp [bindG] at e
theorem binds_run : ∀ (ts : List Tg) (xs : List T) (vs : List V) (s s' : Sg) (sv : L2.St) (Q : L2.St → Hp → Prop), RepTs c r H xs vs → s.length = sv.length → bindGs ts xs s = some s' → (∀ sv', Bd c r H (tgsIs ts) s sv s' sv' → Q sv' H) → gTgs c ts vs sv H Q
  | [], [], vs, s, s', sv, Q, z, hl, e, k => by
    simp only [bindGs] at e
    cases e
    obtain rfl := z
    exact ⟨rfl, k sv ⟨rfl, rfl, fun _ _ => ⟨rfl, rfl⟩, fun i d hi _ => by simp [tgsIs] at hi⟩⟩
  | t :: ts, x :: xs, vs, s, s', sv, Q, z, hl, e, k => by
    obtain ⟨v, ws, rfl, z1, z2⟩ := z
    simp only [bindGs] at e
    split at e
    · rename_i s1 e1
      refine ⟨v, ws, rfl, bind_run t x v s s1 sv _ z1 hl e1 fun sv1 B1 => ?_⟩
      refine binds_run ts xs ws s1 s' sv1 Q z2 (by rw [B1.l1, B1.l2]; exact hl) e fun sv2 B2 => k sv2 ?_
      refine ⟨B2.l1.trans B1.l1, B2.l2.trans B1.l2, fun i hi => ?_, fun i d hi ei => ?_⟩
      · have h1 : i ∉ tgIs t := fun z => hi (by simp [tgsIs, z])
        have h2 : i ∉ tgsIs ts := fun z => hi (by simp [tgsIs, z])
        exact ⟨(B2.out i h2).1.trans (B1.out i h1).1, (B2.out i h2).2.trans (B1.out i h1).2⟩
      · by_cases h2 : i ∈ tgsIs ts
        · rcases B2.inn i d h2 ei with z | ⟨e2, e3⟩
          · exact .inl z
          · by_cases h1 : i ∈ tgIs t
            · rcases B1.inn i d h1 e2 with ⟨tt, vv, z1, z2, z3⟩ | ⟨z1, z2⟩
              · exact .inl ⟨tt, vv, z1, e3.trans z2, z3⟩
              · exact .inr ⟨z1, e3.trans z2⟩
            · obtain ⟨o1, o2⟩ := B1.out i h1
              exact .inr ⟨o1 ▸ e2, e3.trans o2⟩
        · obtain ⟨o1, o2⟩ := B2.out i h2
          have h1 : i ∈ tgIs t := by
            have : i ∈ tgIs t ++ tgsIs ts := hi
            rcases List.mem_append.mp this with z | z
            · exact z
            · exact absurd z h2
          rw [o1] at ei
          rcases B1.inn i d h1 ei with ⟨tt, vv, z1, z2, z3⟩ | ⟨z1, z2⟩
          · exact .inl ⟨tt, vv, z1, o2.trans z2, z3⟩
          · exact .inr ⟨z1, o2.trans z2⟩
    · cases e
  | [], x :: xs, vs, s, s', sv, Q, z, hl, e, k => by simp [bindGs] at e
  | t :: ts, [], vs, s, s', sv, Q, z, hl, e, k => by simp [bindGs] at e
theorem binds_len : ∀ (ts : List Tg) (xs : List T) (s s' : Sg), bindGs ts xs s = some s' → xs.length = ts.length
  | [], [], s, s', e => rfl
  | t :: ts, x :: xs, s, s', e => by
    simp only [bindGs] at e
    split at e
    · rename_i s1 e1
      rw [List.length_cons, List.length_cons, binds_len ts xs s1 s' e]
    · cases e
  | [], x :: xs, s, s', e => by simp [bindGs] at e
  | t :: ts, [], s, s', e => by simp [bindGs] at e
end
theorem Bd.srel {is : List Nat} {s s' : Sg} {sv sv' : L2.St} (B : Bd c r H is s sv s' sv') (SR : SRel c r H s sv) : SRel c r H s' sv' := by
  refine ⟨by rw [B.l1, B.l2]; exact SR.len, fun i d e => ?_⟩
  by_cases hi : i ∈ is
  · rcases B.inn i d hi e with ⟨t, v, rfl, e1, e2⟩ | ⟨e1, e2⟩
    · exact ⟨v, e1, e2⟩
    · obtain ⟨v, z1, z2⟩ := SR.val i d e1
      exact ⟨v, e2.trans z1, z2⟩
  · obtain ⟨o1, o2⟩ := B.out i hi
    obtain ⟨v, z1, z2⟩ := SR.val i d (o1 ▸ e)
    exact ⟨v, o2.trans z1, z2⟩
theorem wip_len (s : Sg) : ∀ own : List Nat, (wipG s own).length = s.length
  | [] => rfl
  | v :: vs => by unfold wipG; rw [List.length_set, wip_len s vs]
theorem wip_some {s : Sg} {i : Nat} {d : D} : ∀ {own : List Nat}, (wipG s own)[i]? = some (some d) → s[i]? = some (some d) ∧ i ∉ own
  | [], h => ⟨h, by simp⟩
  | v :: vs, h => by
    unfold wipG at h
    by_cases hi : v = i
    · subst hi
      by_cases hv : v < (wipG s vs).length
      · rw [List.getElem?_set_self hv] at h; cases h
      · rw [List.getElem?_eq_none (by simpa using hv)] at h; cases h
    · rw [List.getElem?_set_ne hi] at h
      obtain ⟨h1, h2⟩ := wip_some h
      exact ⟨h1, by simp [h2, Ne.symm hi]⟩
theorem wip_rel {s : Sg} {sv : L2.St} {own : List Nat} (SR : SRel c r H s sv) : SRel c r H (wipG s own) (wipe sv own) := by
  refine ⟨by rw [wip_len, wipe_length]; exact SR.len, fun i d e => ?_⟩
  obtain ⟨e1, e2⟩ := wip_some e
  obtain ⟨v, z1, z2⟩ := SR.val i d e1
  exact ⟨v, by rw [wipe_out e2]; exact z1, z2⟩
theorem wipe_get (sv : L2.St) : ∀ (own : List Nat) (i : Nat), i ∈ own → i < sv.length → (wipe sv own)[i]? = some none
  | [], i, h, _ => by simp at h
  | v :: vs, i, h, hl => by
    unfold wipe
    by_cases hi : v = i
    · subst hi
      rw [List.getElem?_set_self (by rw [wipe_length]; exact hl)]
    · rw [List.getElem?_set_ne hi]
      rcases List.mem_cons.mp h with z | z
      · exact absurd z.symm hi
      · exact wipe_get sv vs i z hl
theorem Bd.wipe {is own : List Nat} {s s' : Sg} {sv sv' : L2.St} (B : Bd c r H is s (L2.wipe sv own) s' sv') (hs : ∀ i ∈ is, i ∈ own) : L2.wipe sv' own = L2.wipe sv own := by
  have l : sv'.length = sv.length := by rw [B.l2, wipe_length]
  apply List.ext_getElem?
  intro i
  by_cases hi : i ∈ own
  · by_cases hl : i < sv.length
    · rw [wipe_get sv own i hi hl, wipe_get sv' own i hi (by omega)]
    · rw [List.getElem?_eq_none (by rw [wipe_length]; omega), List.getElem?_eq_none (by rw [wipe_length]; omega)]
  · rw [wipe_out hi, (B.out i fun z => hi (hs i z)).2]
/-- a place that isn't the logical heap's is changed -/
theorem ExtW.set {D : Addr} {o o' : HO} (hD : H D = some o) (hm : Mut (some o)) : ExtW c (fun a => a = D) r H r (upd H D o') := by
  refine ⟨⟨[], by simp, by simp⟩, fun a u e _ ha => by rw [upd_ne ha]; exact e, fun a vs q => ?_, fun a vs e => ?_, fun a ob u e => ?_, fun a e => ?_⟩
  · rcases q with (q | ⟨ob, q⟩) | q
    · refine .inl (.inl ?_)
      rw [upd_ne (fun z => by subst z; rw [hD] at q; cases q; exact hm)]
      exact q
    · refine .inl (.inr ⟨ob, ?_⟩)
      rw [upd_ne (fun z => by subst z; rw [hD] at q; cases q; exact hm)]
      exact q
    · exact .inr q
  · rw [upd_ne (fun z => by subst z; rw [hD] at e; cases e; exact hm)]
    exact e
  · rw [upd_ne (fun z => by subst z; rw [hD] at e; cases e; exact hm)]
    exact e
  · by_cases ha : a = D
    · subst ha; rw [upd_same] at e; cases e
    · rw [upd_ne ha] at e; exact e
theorem RepK.extW {W : Addr → Prop} (e : ExtW c W r H r' H') : ∀ (ts : List (T × T)) (vs : List (Key × V)), RepK c r H ts vs → RepK c r' H' ts vs
  | [], vs, h => h
  | x :: xs, vs, h => by
    obtain ⟨k, v, ws, e1, h0, h1, h2, h3⟩ := h
    exact ⟨k, v, ws, e1, h0, RepT.extW e _ _ h1, RepT.extW e _ _ h2, RepK.extW e xs ws h3⟩
theorem RepKT.extW {W : Addr → Prop} (e : ExtW c W r H r' H') : ∀ (ts : List (T × T)) (vs : List (List Key × V)), RepKT c r H ts vs → RepKT c r' H' ts vs
  | [], vs, h => h
  | x :: xs, vs, h => by
    obtain ⟨k, v, ws, e1, h0, h1, h2, h3⟩ := h
    exact ⟨k, v, ws, e1, h0, fun z hz => RepT.extW e _ _ (h1 z hz), RepT.extW e _ _ h2, RepKT.extW e xs ws h3⟩
theorem RepO.extW {W : Addr → Prop} {a : Addr} {o : O} (e : ExtW c W r H r' H') (k : H' a = H a) (z : RepO c r H a o) : RepO c r' H' a o := by
  cases o with
  | lst xs => obtain ⟨vs, z1, z2⟩ := z; exact ⟨vs, k.trans z1, RepTs.extW e _ _ z2⟩
  | dct b kvs =>
    cases b with
    | true => obtain ⟨kv, z1, z2⟩ := z; exact ⟨kv, k.trans z1, RepKT.extW e _ _ z2⟩
    | false => obtain ⟨kv, z1, z2⟩ := z; exact ⟨kv, k.trans z1, RepK.extW e _ _ z2⟩
theorem HRel.set {D : Addr} {o o' : HO} (hh : HRel c r h H) (hD : H D = some o) (hm : Mut (some o)) (nD : D ∉ r) : HRel c r h (upd H D o') :=
  ⟨hh.len, hh.nd, fun m a ob e1 e2 => RepO.extW (ExtW.set hD hm) (upd_ne fun z => nD (z ▸ List.mem_of_getElem? e1)) (hh.ob m a ob e1 e2)⟩
theorem Ext.set {r0 : List Addr} {H0 : Hp} {D : Addr} {o o' : HO} (e : Ext c r0 H0 r H) (hD : H D = some o) (hm : Mut (some o)) (n0 : H0 D = none) : Ext c r0 H0 r (upd H D o') := by
  have w := ExtW.set (c := c) (r := r) (o' := o') hD hm
  exact ⟨e.more, fun a u q na => by rw [upd_ne (ne_of_none q n0)]; exact e.keep a u q na, fun a vs q => w.tup a vs (e.tup a vs q), fun a vs q => w.tp a vs (e.tp a vs q), fun a ob u q => w.frz a ob u (e.frz a ob u q), fun a q => e.dom a (w.dom a q)⟩
end
end Rm
set_option Elab.async false
set_option linter.all false
set_option autoImplicit false
set_option maxRecDepth 100000
/-! Soundness 12: comprehensions. -/
namespace Rm
open PySem PySem.Spec PyProof.Rows L2
section
variable {c : Tx} {n : Nat} {X : Cx} {N : List Str} {sc : Scope}
def tCx (c : Tx) (n : Nat) (cnd : List Ex) : TT := fun sv H Q => ∃ s h r, SRel c r H s sv ∧ HRel c r h H ∧ Out c rB r H (evC c.P (callF c.P n) cnd s h) Q
theorem pts_ok {cnd : List Ex} {ifs : List Expr} (a : All2 c n X cnd ifs) : PTs X ifs (tCx c n cnd) := by
  cases a with
  | nil => exact ⟨fun pins s0 σ H Q I ⟨s, h, r, SR, hh, o⟩ => pts_nil.run pins s0 σ H Q I (by simp only [evC] at o; exact o true r H rfl hh Ext.refl)⟩
  | cons a b =>
    cases b with
    | nil => exact ⟨fun pins s0 σ H Q I ⟨s, h, r, SR, hh, o⟩ => (pts_one a.pt).run pins s0 σ H Q I ⟨s, h, r, SR, hh, by simp only [evC] at o; exact o⟩⟩
    | cons b1 b2 => exact ⟨fun pins s0 σ H Q I ⟨s, h, r, SR, hh, o⟩ => by simp only [evC] at o; exact o.elim⟩
theorem lc_tr {elt : Ex} {tg : Tg} {it : Ix} {cnd : List Ex} {own : List Nat} (hx : ∀ i ∈ tgIs tg, i ∈ own) (sv : L2.St) (H : Hp) (Q : VK) (z : tEx c n (.lc elt tg it cnd own) sv H Q) : tLc (tIx c n it) (gTg c tg) (tCx c n cnd) (tEx c n elt) own sv H Q := by
  obtain ⟨s, h, r, SR, hh, o⟩ := z
  simp only [evE] at o
  refine ⟨s, h, r, SR, hh, ?_⟩
  cases q : evI c.P (callF c.P n) it s h with
  | exc x y => rw [q] at o; exact o.elim
  | bad => rw [q] at o; exact o.elim
  | ok p h1 =>
    rw [q, bd_ok] at o
    intro J r1 H1 G gd hz hh1 ee D hD
    generalize ef : (fun (x : T) (h : LH) => (match bindG tg x (wipG s own) with
      | some s' => (evC c.P (callF c.P n) cnd s' h).bd fun b h2 => if b then (evE c.P (callF c.P n) elt s' h2).bd fun d h3 => (fix d h3).bd fun t h4 => R.ok (some t) h4 else R.ok none h2
      | none => R.bad : R (Option T))) = f at o
    have nD : D ∉ r1 := hh1.nin hD
    refine ⟨fun k m Hk => ∃ (ts : List T) (vs : List V) (hk : LH) (rk : List Addr), m = p.1.length - k ∧ k ≤ p.1.length ∧ HRel c rk hk Hk ∧ Ext c r1 H1 rk Hk ∧ Hk D = some (.lst vs) ∧ RepTs c rk Hk ts vs ∧ D ∉ rk ∧ ts.length ≤ k ∧
      Out c (rD c) r H ((lcL f (stay p.2 h1) (p.1.drop k) ts hk).bd fun ts h5 => .ok (.tl ts) h5) Q, ⟨p.1.length, [], [], h1, r1, by simp, Nat.zero_le _, hh1.new hD, Ext.new hD, upd_same, rfl, nD, Nat.le_refl _, o⟩, ?_⟩
    rintro k m Hk ⟨ts, vs, hk, rk, rfl, hkl, hhk, ek, eD, et, nDk, hts, ok⟩
    have stayH : stay p.2 h1 hk = true → G rk hk Hk := fun st => gd.keep (fun _ => False) rk hk Hk (fun _ _ z => z) (ek.w _) hhk st
    by_cases hlt : k < p.1.length
    · -- a turn
      refine .inr ?_
      rw [List.drop_eq_getElem_cons hlt] at ok
      simp only [lcL] at ok
      split at ok
      case isFalse => exact ok.elim
      rename_i st
      refine ⟨gd.goes k rk hk Hk hlt (stayH st), _, fun H' z => z, fun x H' hy => ?_⟩
      obtain ⟨t0, et0, ex, hhx, zt⟩ := gd.yields k rk hk Hk x H' hlt (stayH st) hhk hy
      have et0' : t0 = p.1[k] := by
        rw [List.getElem?_eq_getElem hlt] at et0
        exact (Option.some.inj et0).symm
      subst et0'
      have eDx : H' D = some (.lst vs) := ex.keep D _ eD nDk
      have SRw : SRel c rk H' (wipG s own) (wipe sv own) := wip_rel (((SR.ext ee).ext ek).ext ex)
      rw [← ef] at ok
      cases qb : bindG tg p.1[k] (wipG s own) with
      | none => simp only [qb] at ok; exact ok.elim
      | some s' =>
        simp only [qb] at ok
        refine bind_run tg _ x (wipG s own) s' (wipe sv own) _ zt SRw.len qb fun sv' B => ⟨B.wipe hx, ?_⟩
        have SR' := B.srel SRw
        refine ⟨s', hk, rk, SR', hhx, ?_⟩
        cases qc : evC c.P (callF c.P n) cnd s' hk with
        | exc x y => rw [qc] at ok; exact ok.elim
        | bad => rw [qc] at ok; exact ok.elim
        | ok b h2 =>
          rw [qc, bd_ok] at ok
          intro b' r2 H2 eb hh2 e2
          obtain rfl := eb
          have eD2 : H2 D = some (.lst vs) := e2.keep D _ eDx nDk
          have nD2 : D ∉ r2 := e2.nin eDx nDk
          have ek2 : Ext c r1 H1 r2 H2 := (ek.trans ex).trans e2
          have et2 : RepTs c r2 H2 ts vs := RepTs.ext e2 _ _ (RepTs.ext ex _ _ et)
          cases b' with
          | false =>
            exact ⟨p.1.length - (k + 1), by omega, ts, vs, h2, r2, rfl, hlt, hh2, ek2, eD2, et2, nD2, by omega, by rw [ef] at ok; exact ok⟩
          | true =>
            refine ⟨s', h2, r2, SR'.ext e2, hh2, ?_⟩
            cases qe : evE c.P (callF c.P n) elt s' h2 with
            | exc x y => simp only [qe, if_true] at ok; exact ok.elim
            | bad => simp only [qe, if_true] at ok; exact ok.elim
            | ok d h3 =>
              simp only [qe, if_true, bd_ok] at ok
              intro y r3 H3 zd hh3 e3
              have eD3 : H3 D = some (.lst vs) := e3.keep D _ eD2 nD2
              -- the item is stored
              have st : ∃ t h' r', RepT c r' H3 t y ∧ HRel c r' h' H3 ∧ Ext c r2 H2 r' H3 ∧ fix d h3 = .ok t h' := by
                cases qf : fix d h3 with
                | exc x y => rw [qf] at ok; exact ok.elim
                | bad => rw [qf] at ok; exact ok.elim
                | ok t h' =>
                  obtain ⟨t2, h2', r', a1, a2, a3, a4⟩ := fix_step (rep' := fun _ _ _ (a b : T × LH) => b = a) (Q := fun b _ => b = (t, h')) (f := fun t h => R.ok (t, h) h) e3 zd.1 zd.2 hh3 (by rw [qf, bd_ok]; exact fun b _ _ eb _ _ => eb)
                  have a5 : (t2, h2') = (t, h') := a4 (t2, h2') r' H3 rfl a2 a3
                  cases a5
                  exact ⟨t, h', r', a1, a2, a3, rfl⟩
              obtain ⟨t, h', r', zt', hh', e3', qf⟩ := st
              simp only [qf, bd_ok] at ok
              have nD3 : D ∉ r' := e3'.nin eD2 nD2
              have lv : vs.length = ts.length := et.length
              refine ⟨vs, eD3, by omega, p.1.length - (k + 1), by omega, ts ++ [t], vs ++ [y], h', r', rfl, hlt, hh'.set eD3 True.intro nD3, (ek2.trans e3').set eD3 True.intro hD, upd_same, ?_, nD3, by simp; omega, by rw [ef] at ok; exact ok⟩
              have w := ExtW.set (c := c) (r := r') (o' := .lst (vs ++ [y])) eD3 True.intro
              exact RepTs.extW w _ _ ((RepTs.ext e3' _ _ et2).append ⟨y, [], rfl, zt', rfl⟩)
    · -- the end
      have ek' : k = p.1.length := by omega
      subst ek'
      rw [List.drop_length] at ok
      simp only [lcL] at ok
      split at ok
      case isFalse => exact ok.elim
      rename_i st
      refine .inl ⟨gd.stops rk hk Hk (stayH st), ?_⟩
      refine ok (.ref D) rk Hk ⟨⟨D, vs, rfl, eD, et, nDk⟩, fun _ a ea => ?_⟩ hhk (ee.trans ek)
      cases ea
      exact ee.dom D hD
structure LcP (c : Tx) (n : Nat) (X : Cx) (elt : Ex) (tg : Tg) (it : Ix) (cnd : List Ex) (own : List Nat) (N : List Str) (e t i : Expr) (ifs : List Expr) (scope : Scope) : Prop where
  pi : PI X t i (tIx c n it)
  ok : BlkOk X.N X.env.scope scope (ownS N own)
  pg : ∀ (s : Shared) (H : Hp) (C : Addr) (cl : List (Str × Addr)) (fp : List Addr), PG (X.blk s H scope (compEnvC scope cl C X.env) fp) t (gTg c tg)
  pt : ∀ (s : Shared) (H : Hp) (C : Addr) (cl : List (Str × Addr)) (fp : List Addr), PTs (X.blk s H scope (compEnvC scope cl C X.env) fp) ifs (tCx c n cnd)
  pe : ∀ (s : Shared) (H : Hp) (C : Addr) (cl : List (Str × Addr)) (fp : List Addr), PE (X.blk s H scope (compEnvC scope cl C X.env) fp) e (tEx c n elt)
theorem ow_eq (N : List Str) (own : List Nat) : (ownS N own).map (·.2) = own := by unfold ownS; rw [List.map_map]; exact List.map_id'' (fun _ => rfl) own
theorem lc_p (C : Cm c n N sc X) {elt : Ex} {tg : Tg} {it : Ix} {cnd : List Ex} {own : List Nat} {e t i : Expr} {ifs : List Expr} {scope : Scope} (m1 : blkC N sc scope (ownS N own) = true) (m2 : mG N own scope tg t = true) (hi : PI X t i (tIx c n it))
    (sub : ∀ Y : Cx, Cm c n N (relS scope sc) Y → All2 c n Y cnd ifs ∧ OkE c n Y elt e) : LcP c n X elt tg it cnd own N e t i ifs scope := by
  have blk : ∀ (s : Shared) (H : Hp) (Ca : Addr) (cl : List (Str × Addr)) (fp : List Addr), Cm c n N (relS scope sc) (X.blk s H scope (compEnvC scope cl Ca X.env) fp) := fun s H Ca cl fp =>
    ⟨C.eK, C.emg, C.eN, by rw [← C.esc]; rfl, C.calm, C.room, C.grd, rfl, C.nd, C.fns, C.tx, C.gds⟩
  exact ⟨hi, by rw [C.eN, C.esc]; exact blkOk_by m1,
    fun s H Ca cl fp => pg_ok (X := X.blk s H scope (compEnvC scope cl Ca X.env) fp) (c := c) (N := N) (sc := scope) C.eK C.eN (fun x hx => by
      rcases loc_of hx with z | z
      · exact .inl (lookup_relS_keep (by decide) z)
      · exact .inr (lookup_relS_keep (by decide) z)) C.calm C.nd (fun x hx => by
      rcases loc_of hx with z | z
      · exact .inr (lookup_relS_keep (by decide) z)
      · exact .inl (by show (scope.names.lookup x == some .cell) = true; rw [z]; rfl)) own tg t m2,
    fun s H Ca cl fp => pts_ok (sub _ (blk s H Ca cl fp)).1, fun s H Ca cl fp => (sub _ (blk s H Ca cl fp)).2.pe⟩
theorem ok_lc (C : Cm c n N sc X) {elt : Ex} {tg : Tg} {it : Ix} {cnd : List Ex} {own : List Nat} {e t i : Expr} {ifs : List Expr} {scope : Scope} {pos : Pos} (m1 : blkC N sc scope (ownS N own) = true) (m2 : mG N own scope tg t = true) (hx : ∀ i ∈ tgIs tg, i ∈ own) (hi : PI X t i (tIx c n it)) (hf : okHead i = true)
    (sub : ∀ Y : Cx, Cm c n N (relS scope sc) Y → All2 c n Y cnd ifs ∧ OkE c n Y elt e) : OkE c n X (.lc elt tg it cnd own) (.ListComp e [⟨t, i, ifs, 0⟩] scope pos) := by
  have L := lc_p C m1 m2 hi sub
  have pe := pe_lc (pos := pos) C.calm (by rw [C.eN]; exact C.nd) L.pi L.ok L.pg L.pt L.pe (fun v => hd_fold hf _ v)
  rw [ow_eq] at pe
  exact okE_pe (PE.imp' pe (lc_tr hx)) rfl (fun _ => rfl)
theorem ps_lc (C : Cm c n N sc X) (hk : sc.kind = .function) {j : Nat} {y : Str} {py spos : Pos} {elt : Ex} {tg : Tg} {it : Ix} {cnd : List Ex} {own : List Nat} {e t i : Expr} {ifs : List Expr} {scope : Scope} {pos : Pos} (hy : N[j]? = some y) (hyl : sc.names.lookup y = some .local) (hl : (py.line == pos.line) = true)
    (hn : (scope.names.any fun (n, k) => n == y && (k == .local || k == .cell)) = false) (m1 : blkC N sc scope (ownS N own) = true) (m2 : mG N own scope tg t = true) (hx : ∀ i ∈ tgIs tg, i ∈ own) (hi : PI X t i (tIx c n it)) (hf : okHead i = true)
    (sub : ∀ Y : Cx, Cm c n N (relS scope sc) Y → All2 c n Y cnd ifs ∧ OkE c n Y elt e) : PS X (.Assign [.Name y py] (.ListComp e [⟨t, i, ifs, 0⟩] scope pos) spos) (tAsg (tEx c n (.lc elt tg it cnd own)) (gName j)) := by
  have L := lc_p C m1 m2 hi sub
  have hyl' : X.env.scope.names.lookup y = some .local := by rw [C.esc]; exact hyl
  have ps := ps_setLc (spos := spos) (pos := pos) (i := j) (y := y) (py := py) C.calm (by rw [C.eN]; exact C.nd) (by rw [C.eN]; exact hy) hyl' (sw_true (by rw [C.esc]; exact hk) hyl' hl hn) L.pi L.ok L.pg L.pt L.pe (fun v => hd_fold hf _ v)
  rw [ow_eq] at ps
  exact ⟨fun pins s σ H D I z => ps.run pins s σ H D I (lc_tr hx σ H _ z)⟩
end
end Rm
set_option Elab.async false
set_option linter.all false
set_option autoImplicit false
set_option maxRecDepth 100000
/-! Soundness 13: enumerate, zip over lists, tuples, texts. -/
namespace Rm
open PySem PySem.Spec PyProof.Rows L2
/-- one thing that is walked: a list, a tuple, a text -/
inductive Sk where
  | l (a : Addr) | t (a : Addr) | s (x : Str)
def Sk.v : Sk → V
  | .l a => .ref a | .t a => .ref a | .s x => .str x
def Sk.has (K : PySem.W.Frag) (H : Hp) : Sk → List V → Prop
  | .l a, xs => SqL K H a xs
  | .t a, xs => SqT K H a xs
  | .s x, xs => xs = x.cps.toList.map (fun c => V.str ⟨#[c]⟩) ∧ x.cps.size ≤ sizeLine
/-- its iterator at it, after i items; the other cells it looks at -/
def Sk.at (h : Heap) (it : Addr) (i : Nat) : Sk → Prop
  | .l a => h.IsListIter it a i
  | .t a => h.IsTupleIter it a i
  | .s x => ∃ t, h.IsStrIter it (strIterType x) x t i
def Sk.cells : Sk → List Addr
  | .l a => [a] | .t a => [a] | .s _ => []
section
variable {X : Cx} {pins : List (Addr × Obj)} {σ : L2.St} {H : Hp} {s : Shared} {sk : Sk} {xs ys : List V} {it : Addr} {i : Nat}
theorem Sk.inj (I : Inv X pins σ H s) (h : sk.has X.K H xs) (h' : sk.has X.K H ys) : xs = ys := by
  cases sk with
  | l a => exact I.list_inj h h'
  | t a => exact I.tuple_inj h h'
  | s x => exact h.1.trans h'.1.symm
theorem Sk.size (I : Inv X pins σ H s) (h : sk.has X.K H xs) : xs.length ≤ sizeLine := by
  cases sk with
  | l a => obtain ⟨its, rv, p, hz⟩ := I.list h; exact hz
  | t a => obtain ⟨its, rv, p, hz⟩ := I.tuple h; exact hz
  | s x => obtain ⟨rfl, hz⟩ := h; simpa using hz
theorem Sk.obj {h : Heap} (st : sk.at h it i) : ∃ o, h.get? it = some o ∧ ∀ v, o.data ≠ .cell v := by
  cases sk with
  | l a => obtain ⟨o, e, c, d⟩ := st; exact ⟨o, e, fun v z => by rw [d] at z; cases z⟩
  | t a => obtain ⟨o, e, c, d⟩ := st; exact ⟨o, e, fun v z => by rw [d] at z; cases z⟩
  | s x => obtain ⟨t, o, e, c, d⟩ := st; exact ⟨o, e, fun v z => by rw [d] at z; cases z⟩
theorem Sk.keep {h h' : Heap} (st : sk.at h it i) (k : ∀ o, h.get? it = some o → h'.get? it = some o) : sk.at h' it i := by
  cases sk with
  | l a => obtain ⟨o, e, r⟩ := st; exact ⟨o, k o e, r⟩
  | t a => obtain ⟨o, e, r⟩ := st; exact ⟨o, k o e, r⟩
  | s x => obtain ⟨t, o, e, r⟩ := st; exact ⟨t, o, k o e, r⟩
theorem Sk.draws (I : Inv X pins σ H s) (hc : X.A.in1.handled = none) (h : sk.has X.K H xs) (st : sk.at s.heap it i) (hne : it ∉ sk.cells) :
    ∃ (P : Nat → Value → Prop) (St : Nat → Heap → Prop), Draws X.prog X.w X.A.in1 it (it :: sk.cells) xs.length P St ∧ St i s.heap ∧ (∀ j u, P j u → ∃ x, xs[j]? = some x ∧ RelV x u) ∧ ∀ j h, St j h → sk.at h it j := by
  cases sk with
  | l a =>
    obtain ⟨its, rv, p, hz⟩ := I.list h
    have hl := rv.length
    have D := Draws.list (prog := X.prog) (w := X.w) hc it a (by simp [Sk.cells] at hne; exact fun e => hne e.symm) its.toArray
    have el : xs.length = its.toArray.size := by simpa using hl
    refine ⟨fun i v => its.toArray[i]? = some v, fun i h => h.IsListIter it a i ∧ h.IsList a its.toArray, el ▸ D, ⟨st, p.isList⟩, fun j u hu => ?_, fun j h z => z.1⟩
    have hu' : its[j]? = some u := by simpa using hu
    have hj : j < xs.length := by rw [hl]; exact (List.getElem?_eq_some_iff.mp hu').1
    obtain ⟨u2, e2, r2⟩ := rv.get (List.getElem?_eq_getElem hj)
    rw [hu'] at e2
    cases e2
    exact ⟨_, List.getElem?_eq_getElem hj, r2⟩
  | t a =>
    obtain ⟨its, rv, p, hz⟩ := I.tuple h
    have hl := rv.length
    have D := Draws.tuple (prog := X.prog) (w := X.w) hc it a (by simp [Sk.cells] at hne; exact fun e => hne e.symm) its.toArray
    have el : xs.length = its.toArray.size := by simpa using hl
    refine ⟨fun i v => its.toArray[i]? = some v, fun i h => h.IsTupleIter it a i ∧ h.IsTuple a its.toArray, el ▸ D, ⟨st, p⟩, fun j u hu => ?_, fun j h z => z.1⟩
    have hu' : its[j]? = some u := by simpa using hu
    have hj : j < xs.length := by rw [hl]; exact (List.getElem?_eq_some_iff.mp hu').1
    obtain ⟨u2, e2, r2⟩ := rv.get (List.getElem?_eq_getElem hj)
    rw [hu'] at e2
    cases e2
    exact ⟨_, List.getElem?_eq_getElem hj, r2⟩
  | s x =>
    obtain ⟨rfl, hz⟩ := h
    obtain ⟨t, st⟩ := st
    have D := Draws.text (prog := X.prog) (w := X.w) hc it x t
    have el : (x.cps.toList.map (fun c => V.str ⟨#[c]⟩)).length = x.cps.size := by simp
    refine ⟨fun i v => ∃ c u, x.cps[i]? = some c ∧ v = .str ⟨#[c]⟩ u, fun i h => h.IsStrIter it (strIterType x) x t i, el ▸ D, st, fun j u hu => ?_, fun j h z => ⟨t, z⟩⟩
    obtain ⟨c, k, e, rfl⟩ := hu
    refine ⟨.str ⟨#[c]⟩, ?_, k, rfl⟩
    rw [List.getElem?_map]
    have : x.cps.toList[j]? = some c := by simpa using e
    rw [this]; rfl
end
/-! ### how they begin -/
set_option maxHeartbeats 1000000 in
theorem meets_enum1 {v : Value} {o : Obj} {H : Heap → Prop} (B : Begins v o H) :
    Meets (Builtin.«enumerate.__new__» ⟨[.type "enumerate", v], []⟩) (fun _ R s => H s.heap ∧
      R (.ok (.ret (.ref (s.heap.push o).objs.size))) { s with heap := (s.heap.push o).push { cls := .type "enumerate", data := .fields #[.none, .bool false, .ref s.heap.objs.size, rawInt 0, .none, .none] } }) :=
  .of_wp fun prog w A R s h => by
    obtain ⟨hp, g, d, tk, os⟩ := s; obtain ⟨h1, h⟩ := h
    have hsub := sub_enumerate
    have q1 : ∀ {A' : Around} {E : Value → Shared → Prop} {Q : Value → Shared → Prop}, Q (.ref hp.objs.size) ⟨hp.push o, g, d, tk, os⟩ → wpAny (model prog w) A' (pyIter v) Q E ⟨hp, g, d, tk, os⟩ :=
      fun q => B.iter prog w _ _ ⟨hp, g, d, tk, os⟩ _ h1 q
    wp_walk using q1
    refine wpAny_stack_any fun st => wpAny_pure ?_
    split
    · rename_i c _ _ _ _ _
      cases (c == Value.type "enumerate")
      · wp_walk using q1
        exact ⟨_, rfl, h⟩
      · wp_walk using q1
        exact ⟨_, rfl, h⟩
    · wp_walk using q1
      exact ⟨_, rfl, h⟩
theorem enum1_begins {prog : Program} {w : World} {A : Around} {E : Value → Shared → Prop} {s : Shared} {v : Value} {o : Obj} {H : Heap → Prop} {Q : Value → Shared → Prop} (B : Begins v o H) (h1 : H s.heap)
    (h : ∀ h', IsEnum h' (s.heap.objs.size + 1) s.heap.objs.size 0 .none → h'.get? s.heap.objs.size = some o → h'.objs.size = s.heap.objs.size + 2 →
      (∀ b o, s.heap.get? b = some o → h'.get? b = some o) → Q (.ref (s.heap.objs.size + 1)) { s with heap := h' }) :
    wpAny (model prog w) A (call (.type "enumerate") [v]) Q E s := by
  refine callType_new F.called_enumerate (by decide) (F.typeCall_enumerate_1 _) (F.newCall_enumerate_1 _) (fun obj => F.args_object_init_2 obj _) F.entry_enumerate_new
    (meets_enum1 B) ⟨h1, ?_⟩
  have hz : (s.heap.push o).objs.size = s.heap.objs.size + 1 := Heap.size_push ..
  show _ ∧ _
  rw [hz]
  have he : IsEnum ((s.heap.push o).push { cls := .type "enumerate", data := .fields #[.none, .bool false, .ref s.heap.objs.size, rawInt 0, .none, .none] }) (s.heap.objs.size + 1) s.heap.objs.size 0 .none := by
    have := Heap.get?_push_size (s.heap.push o) (o := { cls := .type "enumerate", data := .fields #[.none, .bool false, .ref s.heap.objs.size, rawInt 0, .none, .none] }) rfl
    rw [hz] at this; exact this
  refine ⟨⟨_, he, rfl⟩, h _ he (Heap.get?_push_of_some _ (Heap.get?_push_size _ B.free)) (by rw [Heap.size_push, hz]) fun b o x => Heap.get?_push_of_some _ (Heap.get?_push_of_some _ x)⟩
section
variable {X : Cx} {pins : List (Addr × Obj)} {σ : L2.St} {H : Hp} {s : Shared} {sk : Sk} {xs ys : List V} {it : Addr} {i : Nat}
theorem Sk.begins {u : Value} (I : Inv X pins σ H s) (h : sk.has X.K H xs) (r : RelV sk.v u) : ∃ (o : Obj) (Hh : Heap → Prop), Begins u o Hh ∧ Hh s.heap ∧ (∀ h' b, h'.get? b = some o → sk.at h' b 0) ∧ ∀ a ∈ sk.cells, a < s.heap.objs.size := by
  cases sk with
  | l a =>
    cases r
    obtain ⟨its, rv, p, hz⟩ := I.list h
    refine ⟨_, _, begins_list a its.toArray, p.isList, fun h' b e => ⟨_, e, rfl, rfl⟩, fun b hb => ?_⟩
    have e : b = a := by simpa [Sk.cells] using hb
    subst e
    exact p.lt
  | t a =>
    cases r
    obtain ⟨its, rv, p, hz⟩ := I.tuple h
    refine ⟨_, _, begins_tuple a its.toArray, p, fun h' b e => ⟨_, e, rfl, rfl⟩, fun b hb => ?_⟩
    have e : b = a := by simpa [Sk.cells] using hb
    subst e
    obtain ⟨o1, ho1, _⟩ := id p
    exact Heap.lt_size ho1
  | s x =>
    obtain ⟨k, rfl⟩ := r
    exact ⟨_, _, begins_text x k, True.intro, fun h' b e => ⟨k, _, e, rfl, rfl⟩, fun b hb => by simp [Sk.cells] at hb⟩
end
end Rm
set_option Elab.async false
set_option linter.all false
set_option autoImplicit false
set_option maxRecDepth 100000
/-! Soundness 14: enumerate, zip: the turns. -/
namespace Rm
open PySem PySem.Spec PyProof.Rows L2
def IteZ (K : PySem.W.Frag) (sk : Sk) : It :=
  ⟨fun i H => ∃ (xs : List V) (x : V), sk.has K H xs ∧ xs[i]? = some x, fun i H v H' => ∃ T x, v = .ref T ∧ H T = none ∧ H' = upd H T (.tup [.int (i : Nat), x]) ∧ ∀ xs, sk.has K H xs → xs[i]? = some x, fun i H => ∃ xs : List V, sk.has K H xs ∧ xs.length = i⟩
theorem turn_enumZ {P : Program} {w : World} {K : PySem.W.Frag} {elts : List Expr} {kk : Nat} {tpos : Pos} (sk : Sk) (e it : Addr) (hne : e ≠ it) (hef : e ∉ sk.cells) (hif : it ∉ sk.cells) :
    Turn P w K (.Tuple elts kk tpos) (IteZ K sk) [e, it] e (fun i h => (∃ old, IsEnum h e it ((i : Nat) : Int) old) ∧ sk.at h it i) where
  mem := by simp
  obj := fun i h st b hb => by
    obtain ⟨⟨old, he⟩, hi⟩ := st
    have e' : b = e ∨ b = it := by simpa using hb
    rcases e' with z | z
    · rw [z]; exact ⟨_, he, fun v q => nomatch q⟩
    · rw [z]; exact Sk.obj hi
  keep := fun i h h' st k => let ⟨⟨old, he⟩, hi⟩ := st; ⟨⟨old, k e (by simp) _ he⟩, Sk.keep hi fun o q => k it (by simp) o q⟩
  item := by
    intro X hP hw hK hc i pins s σ H E I hf st hg
    subst hP hw hK
    obtain ⟨⟨old, he⟩, hit⟩ := st
    obtain ⟨xs, x, hq, hx⟩ := hg
    have hel : e < s.heap.objs.size := Heap.lt_size he
    have hil : it < s.heap.objs.size := by obtain ⟨_, q, _⟩ := Sk.obj hit; exact Heap.lt_size q
    obtain ⟨Pp, St, D, st0, hP, hS⟩ := Sk.draws I (show X.A.in1.handled = none from I.ok.hd hc) hq hit hif
    have hlt : i < xs.length := (List.getElem?_eq_some_iff.mp hx).1
    refine wpAny_pyNext_enum_itemD D he st0 hlt hne (by simp [hne, hef]) fun u h' tk hu ho hst hT hsz hk => ?_
    obtain ⟨x', ex, ru⟩ := hP i u hu
    rw [hx] at ex
    cases ex
    refine ⟨_, rfl, wpAny_letOwnedTupleGo_enum (s := { s with heap := h', toks := tk + 1 }) ho fun h'' he' sb => ?_⟩
    have hT2 : h''.get? s.heap.objs.size = some { cls := .type "tuple", data := .seq #[.int i tk, u] } := (sb.2 _ (Nat.ne_of_gt hel)).trans hT
    have new : ObjOk X.prog X.w (upd H s.heap.objs.size (.tup [.int (i : Nat), x])) h'' s.heap.objs.size (.tup [.int (i : Nat), x]) :=
      ⟨by show 2 ≤ sizeLine; decide, [.int i tk, u], .cons ⟨_, rfl⟩ (.cons ru .nil), ⟨_, hT2, rfl, _, rfl⟩⟩
    have I1 : Inv X pins σ (upd H s.heap.objs.size (.tup [.int (i : Nat), x])) { s with heap := h'', toks := tk + 1 } :=
      I.turnedNew (ch := [e, it]) (fun b ob hb q => (sb.2 b (fun z => hb (by simp [z]))).trans (hk b ob (fun z => hb (by simp [z])) (fun z => hb (by simp [z])) q)) hf (Nat.le_refl _) new
    refine ⟨.ref s.heap.objs.size, _, I1, rfl, ⟨_, x, rfl, I.hok.fresh (Nat.le_refl _), rfl, fun ys hy => by rw [Sk.inj I hy hq]; exact hx⟩, ⟨⟨u, ?_⟩, Sk.keep (hS _ _ hst) fun o q => (sb.2 it (Ne.symm hne)).trans q⟩, fun b hb => ?_⟩
    · have e1 : ((i + 1 : Nat) : Int) = (i : Int) + 1 := by omega
      rw [e1]; exact he'
    · have hb' : b < s.heap.objs.size := by
        have e' : b = e ∨ b = it := by simpa using hb
        rcases e' with z | z
        · rw [z]; exact hel
        · rw [z]; exact hil
      rw [upd_ne (Nat.ne_of_lt hb')]
      exact (hf b hb).1
  done := by
    intro X hP hw hK hc i pins s σ H E I hf st hg
    subst hP hw hK
    obtain ⟨⟨old, he⟩, hit⟩ := st
    obtain ⟨xs, hq, rfl⟩ := hg
    obtain ⟨f0, f1, f2, f3, f4, f5⟩ := hf it (by simp)
    obtain ⟨Pp, St, D, st0, hP, hS⟩ := Sk.draws I (show X.A.in1.handled = none from I.ok.hd hc) hq hit hif
    exact wpAny_pyNext_enum_endD D he st0 fun h' eb => ⟨rfl, I.turned (t' := s.toks) (fun b o hb q => eb b o hb q) f0 f1 f3 f4 f5⟩
  self := fun A i s Q E st h => let ⟨⟨_, he⟩, _⟩ := st; wpAny_pyIter_enum he h
def iEnumZ (K : PySem.W.Frag) (ta : TA) : TI := fun σ H R => ta σ H fun vs H1 => ∃ sk xs, vs = [Sk.v sk] ∧ sk.has K H1 xs ∧ (xs.length ≤ sizeLine → R (IteZ K sk) H1)
theorem pi_enumZ {X : Cx} {e : Expr} {ta : TA} {p pos tpos : Pos} {elts : List Expr} {kk : Nat} (hg : Gl X "enumerate") (hm : X.mg "enumerate" = none) (ha : PA X [e] ta) (hs : starEach [e] X.env = [(false, eval e X.env)]) :
    PI X (.Tuple elts kk tpos) (.Call (.Name "enumerate" p) [e] [] pos) (iEnumZ X.K ta) := by
  refine ⟨fun pins s σ H R I h => ?_⟩
  refine Call_ (ld_blt I hg hm boot_enumerate (PyProof.Rows.callWith_type1 (thn (ha.run pos pins s σ H _ I h) fun us s1 ⟨vs, H1, I1, r1, q1⟩ => ?_) hs rfl))
  obtain ⟨sk, xs, ex, hq, q⟩ := q1
  subst ex
  cases r1 with
  | cons r rr =>
    cases rr
    obtain ⟨o, Hh, B, h0, hat, hcl⟩ := Sk.begins I1 hq r
    refine enum1_begins B h0 fun h' he hit hsz hk => wpAny_pyIter_enum he ?_
    have I2 : Inv X pins σ H1 { s1 with heap := h' } := I1.kept (t' := s1.toks) hk
    refine ⟨s1.heap.objs.size + 1, [s1.heap.objs.size + 1, s1.heap.objs.size], _, _, H1, rfl, I2, turn_enumZ sk (s1.heap.objs.size + 1) s1.heap.objs.size (Nat.succ_ne_self _) (fun z => absurd (hcl _ z) (by show ¬ (s1.heap.objs.size + 1 < s1.heap.objs.size); omega)) (fun z => absurd (hcl _ z) (Nat.lt_irrefl _)), ⟨⟨.none, he⟩, hat _ _ hit⟩, fun b hb => ?_, q (Sk.size I1 hq)⟩
    have e' : b = s1.heap.objs.size + 1 ∨ b = s1.heap.objs.size := by simpa using hb
    have hle : s1.heap.objs.size ≤ b := by
      rcases e' with z | z
      · rw [z]; exact Nat.le_add_right _ _
      · rw [z]; exact Nat.le_refl _
    exact I1.fpOk hle (I1.hok.fresh hle)
/-! ### zip of two -/
def ItzZ (K : PySem.W.Frag) (sa sb : Sk) : It :=
  ⟨fun i H => ∃ (xs ys : List V) (x y : V), sa.has K H xs ∧ sb.has K H ys ∧ xs[i]? = some x ∧ ys[i]? = some y,
    fun i H v H' => ∃ T x y, v = .ref T ∧ H T = none ∧ H' = upd H T (.tup [x, y]) ∧ (∀ xs, sa.has K H xs → xs[i]? = some x) ∧ ∀ ys, sb.has K H ys → ys[i]? = some y,
    fun i H => ∃ xs ys : List V, sa.has K H xs ∧ sb.has K H ys ∧ i ≤ xs.length ∧ i ≤ ys.length ∧ (i = xs.length ∨ i = ys.length)⟩
theorem turn_zipZ {P : Program} {w : World} {K : PySem.W.Frag} {elts : List Expr} {kk : Nat} {tpos : Pos} {sa sb : Sk} {z TI TO i1 i2 : Addr} (S : ZipSep2 z TI TO i1 i2 (i1 :: sa.cells) (i2 :: sb.cells)) (n1 : i1 ∉ sa.cells) (n2 : i2 ∉ sb.cells) :
    Turn P w K (.Tuple elts kk tpos) (ItzZ K sa sb) [z, TI, TO, i1, i2] z (fun i h => IsZip h z TI TO .none ∧ IsTupOf2 h TI (.ref i1) (.ref i2) ∧ (∃ x y, IsTupOf2 h TO x y) ∧ sa.at h i1 i ∧ sb.at h i2 i) where
  mem := by simp
  obj := fun i h st c hc => by
    obtain ⟨hz, hTI, ⟨x, y, hTO⟩, h1, h2⟩ := st
    have e' : c = z ∨ c = TI ∨ c = TO ∨ c = i1 ∨ c = i2 := by simpa using hc
    rcases e' with q | q | q | q | q
    · rw [q]; exact ⟨_, hz, fun v q => nomatch q⟩
    · rw [q]; exact ⟨_, hTI, fun v q => nomatch q⟩
    · rw [q]; exact ⟨_, hTO, fun v q => nomatch q⟩
    · rw [q]; exact Sk.obj h1
    · rw [q]; exact Sk.obj h2
  keep := fun i h h' st k => by
    obtain ⟨hz, hTI, ⟨x, y, hTO⟩, h1, h2⟩ := st
    exact ⟨k z (by simp) _ hz, k TI (by simp) _ hTI, ⟨x, y, k TO (by simp) _ hTO⟩, Sk.keep h1 fun o q => k i1 (by simp) o q, Sk.keep h2 fun o q => k i2 (by simp) o q⟩
  item := by
    intro X hP hw hK hc i pins s σ H E I hf st hg
    subst hP hw hK
    obtain ⟨hz, hTI, ⟨x0, y0, hTO⟩, h1, h2⟩ := st
    obtain ⟨xs, ys, x, y, hqx, hqy, hx, hy⟩ := hg
    have hzl : z < s.heap.objs.size := Heap.lt_size hz
    have hh : X.A.in1.handled = none := I.ok.hd hc
    obtain ⟨P1, St1, D1, st1, hP1, hS1⟩ := Sk.draws I hh hqx h1 n1
    obtain ⟨P2, St2, D2, st2, hP2, hS2⟩ := Sk.draws I hh hqy h2 n2
    have l1 : i < xs.length := (List.getElem?_eq_some_iff.mp hx).1
    have l2 : i < ys.length := (List.getElem?_eq_some_iff.mp hy).1
    refine wpAny_pyNext_zipD2_item S D1 D2 hz hTI hTO st1 st2 l1 l2 fun u u2 h' tk hu hu2 z' TO' st1' st2' hT hsz hk => ?_
    obtain ⟨x', ex, ru⟩ := hP1 i u hu
    obtain ⟨y', ey, ru2⟩ := hP2 i u2 hu2
    rw [hx] at ex
    rw [hy] at ey
    cases ex
    cases ey
    refine ⟨_, rfl, wpAny_letOwnedTupleGo_zip (s := { s with heap := h', toks := tk }) z' fun h'' z'' sb' => ?_⟩
    have hT2 : h''.get? s.heap.objs.size = some { cls := .type "tuple", data := .seq #[u, u2] } := (sb'.2 _ (Nat.ne_of_gt hzl)).trans hT
    have new : ObjOk X.prog X.w (upd H s.heap.objs.size (.tup [x, y])) h'' s.heap.objs.size (.tup [x, y]) :=
      ⟨by show 2 ≤ sizeLine; decide, [u, u2], .cons ru (.cons ru2 .nil), ⟨_, hT2, rfl, _, rfl⟩⟩
    have I1 : Inv X pins σ (upd H s.heap.objs.size (.tup [x, y])) { s with heap := h'', toks := tk } :=
      I.turnedNew (t' := tk) (ch := [z, TI, TO, i1, i2]) (fun c o hb q => (sb'.2 c (fun q' => hb (by simp [q']))).trans (hk c o (fun q' => hb (by simp [q'])) (fun q' => hb (by simp [q'])) (fun q' => hb (by simp [q'])) (fun q' => hb (by simp [q'])) q)) hf (Nat.le_refl _) new
    refine ⟨.ref s.heap.objs.size, _, I1, rfl, ⟨_, x, y, rfl, I.hok.fresh (Nat.le_refl _), rfl, fun l hl => by rw [Sk.inj I hl hqx]; exact hx, fun l hl => by rw [Sk.inj I hl hqy]; exact hy⟩, ⟨z'', ?_, ⟨u, u2, ?_⟩, ?_, ?_⟩, fun c hcm => ?_⟩
    · exact (sb'.2 _ S.TIz).trans (hk _ _ S.TIz S.TITO S.TIi1 S.TIi2 hTI)
    · exact (sb'.2 _ S.TOz).trans TO'
    · exact Sk.keep (hS1 _ _ st1') fun o q => (sb'.2 _ (Ne.symm S.zi1)).trans q
    · exact Sk.keep (hS2 _ _ st2') fun o q => (sb'.2 _ (Ne.symm S.zi2)).trans q
    · have hlt : c < s.heap.objs.size := by
        have e' : c = z ∨ c = TI ∨ c = TO ∨ c = i1 ∨ c = i2 := by simpa using hcm
        rcases e' with q | q | q | q | q
        · rw [q]; exact hzl
        · rw [q]; exact Heap.lt_size hTI
        · rw [q]; exact Heap.lt_size hTO
        · rw [q]; obtain ⟨_, e1, _⟩ := Sk.obj h1; exact Heap.lt_size e1
        · rw [q]; obtain ⟨_, e2, _⟩ := Sk.obj h2; exact Heap.lt_size e2
      rw [upd_ne (Nat.ne_of_lt hlt)]
      exact (hf c hcm).1
  done := by
    intro X hP hw hK hc i pins s σ H E I hf st hg
    subst hP hw hK
    obtain ⟨hz, hTI, ⟨x0, y0, hTO⟩, h1, h2⟩ := st
    obtain ⟨xs, ys, hqx, hqy, g1, g2, hend⟩ := hg
    have hh : X.A.in1.handled = none := I.ok.hd hc
    obtain ⟨P1, St1, D1, st1, hP1, hS1⟩ := Sk.draws I hh hqx h1 n1
    obtain ⟨P2, St2, D2, st2, hP2, hS2⟩ := Sk.draws I hh hqy h2 n2
    exact wpAny_pyNext_zipD2_end S D1 D2 hz hTI hTO st1 st2 g1 g2 hend fun h' tk hk => ⟨rfl, I.turnedL (t' := tk) (ch := [z, TI, TO, i1, i2]) (fun c o hb q =>
      hk c o (fun q' => hb (by simp [q'])) (fun q' => hb (by simp [q'])) (fun q' => hb (by simp [q'])) (fun q' => hb (by simp [q'])) q) hf⟩
  self := fun A i s Q E st h => wpAny_pyIter_zip st.1 h
def iZipZ (K : PySem.W.Frag) (ta : TA) : TI := fun σ H R => ta σ H fun vs H1 => ∃ sa sb xs ys, vs = [Sk.v sa, Sk.v sb] ∧ sa.has K H1 xs ∧ sb.has K H1 ys ∧ (xs.length ≤ sizeLine → ys.length ≤ sizeLine → R (ItzZ K sa sb) H1)
theorem pi_zipZ {X : Cx} {e e2 : Expr} {ta : TA} {p pos tpos : Pos} {elts : List Expr} {kk : Nat} (hg : Gl X "zip") (hm : X.mg "zip" = none) (ha : PA X [e, e2] ta)
    (hs : starEach [e, e2] X.env = (false, eval e X.env) :: starEach [e2] X.env) (hpl : (backTo pos (starEach [e2] X.env)).any (·.1) = false) :
    PI X (.Tuple elts kk tpos) (.Call (.Name "zip" p) [e, e2] [] pos) (iZipZ X.K ta) := by
  refine ⟨fun pins s σ H R I h => ?_⟩
  refine Call_ (ld_blt I hg hm PyProof.Rows.boot_zip (PyProof.Rows.callWith_type1 (thn (ha.run pos pins s σ H _ I h) fun us s1 ⟨vs, H1, I1, r1, q1⟩ => ?_) hs hpl))
  obtain ⟨sa, sb, xs, ys, ex, hqx, hqy, q⟩ := q1
  subst ex
  cases r1 with
  | cons r rr =>
    cases rr with
    | cons r' rr =>
      cases rr
      have fresh5 : ∀ c, c ∈ [s1.heap.objs.size + 4, s1.heap.objs.size + 2, s1.heap.objs.size + 3, s1.heap.objs.size, s1.heap.objs.size + 1] → FpOk X pins H1 c := fun c hcm => by
        have e' : c = s1.heap.objs.size + 4 ∨ c = s1.heap.objs.size + 2 ∨ c = s1.heap.objs.size + 3 ∨ c = s1.heap.objs.size ∨ c = s1.heap.objs.size + 1 := by simpa using hcm
        have hle : s1.heap.objs.size ≤ c := by
          rcases e' with z | z | z | z | z
          · rw [z]; exact Nat.le_add_right _ _
          · rw [z]; exact Nat.le_add_right _ _
          · rw [z]; exact Nat.le_add_right _ _
          · rw [z]; exact Nat.le_refl _
          · rw [z]; exact Nat.le_add_right _ _
        exact I1.fpOk hle (I1.hok.fresh hle)
      obtain ⟨o1, Hh1, B1, h1, at1, cl1⟩ := Sk.begins I1 hqx r
      obtain ⟨o2, Hh2, B2, h2, at2, cl2⟩ := Sk.begins I1 hqy r'
      refine zip_begins2 B1 B2 h1 h2 fun h' hz hTI hTO g1 g2 hsz hk => wpAny_pyIter_zip hz ?_
      have I2 : Inv X pins σ H1 { s1 with heap := h' } := I1.kept (t' := s1.toks) hk
      exact ⟨s1.heap.objs.size + 4, [s1.heap.objs.size + 4, s1.heap.objs.size + 2, s1.heap.objs.size + 3, s1.heap.objs.size, s1.heap.objs.size + 1], _, _, H1, rfl, I2, turn_zipZ (zip_sep2 cl1 cl2) (fun z => absurd (cl1 _ z) (Nat.lt_irrefl _)) (fun z => absurd (cl2 _ z) (by show ¬ (s1.heap.objs.size + 1 < s1.heap.objs.size); omega)),
        ⟨hz, hTI, ⟨_, _, hTO⟩, at1 _ _ g1, at2 _ _ g2⟩, fresh5, q (Sk.size I1 hqx) (Sk.size I1 hqy)⟩
/-! ### zip of three -/
def ItzZ3 (K : PySem.W.Frag) (sa sb sd : Sk) : It :=
  ⟨fun i H => ∃ (xs ys zs : List V) (x y z : V), sa.has K H xs ∧ sb.has K H ys ∧ sd.has K H zs ∧ xs[i]? = some x ∧ ys[i]? = some y ∧ zs[i]? = some z,
    fun i H v H' => ∃ T x y z, v = .ref T ∧ H T = none ∧ H' = upd H T (.tup [x, y, z]) ∧ (∀ xs, sa.has K H xs → xs[i]? = some x) ∧ (∀ ys, sb.has K H ys → ys[i]? = some y) ∧ ∀ zs, sd.has K H zs → zs[i]? = some z,
    fun i H => ∃ xs ys zs : List V, sa.has K H xs ∧ sb.has K H ys ∧ sd.has K H zs ∧ i ≤ xs.length ∧ i ≤ ys.length ∧ i ≤ zs.length ∧ (i = xs.length ∨ i = ys.length ∨ i = zs.length)⟩
end Rm
set_option Elab.async false
set_option linter.all false
set_option autoImplicit false
set_option maxRecDepth 100000
/-! Soundness Z: zip of two whose tuples stay with a name. -/
namespace Rm
open PySem PySem.Spec PyProof.Rows L2
abbrev ZR (h : Heap) (z TI TO : Addr) (v0 : Value) (f : Bool) : Prop := h.get? z = some { cls := .type "zip", dict := none, data := .fields #[v0, .bool f, .bool false, .ref TI, .ref TO], slots := #[] }
def Vo (v0 : Value) : Prop := v0 = .none ∨ ∃ T : Addr, v0 = rawInt (T : Nat)
section
variable {prog : Program} {w : World} {A : Around} {E : Value → Shared → Prop} {s : Shared} {z TI TO i1 i2 : Addr} {fp1 fp2 : List Addr} {n1 n2 i : Nat} {P1 P2 : Nat → Value → Prop} {St1 St2 : Nat → Heap → Prop} {a1 a2 v0 : Value} {f : Bool}
theorem alive_any {a : Addr} {Q : Option Obj → Shared → Prop} (q : Q (s.heap.get? a) s) : wpAny (model prog w) A (loadIfAlive a) Q E s := fun _ _ _ => q
theorem zfree {Q : Bool → Shared → Prop} (hz : ZR s.heap z TI TO v0 f) (o : Vo v0) (q1 : Q true s) (q2 : ∀ h', ZR h' z TI TO v0 true → Heap.SameBut z s.heap h' → Q false { s with heap := h' }) : wpAny (model prog w) A (Builtin.SmallTypes.ownedTupleIsFree (.ref z)) Q E s := by
  unfold Builtin.SmallTypes.ownedTupleIsFree
  apply wpAny_bind; refine wpAny_field hz rfl (x := v0) rfl ?_
  rcases o with rfl | ⟨T, rfl⟩
  · exact wpAny_pure q1
  · show wpAny _ _ (loadIfAlive ((T : Int).toNat) >>= _) _ _ _
    rw [Int.toNat_natCast]; apply wpAny_bind; apply alive_any
    cases q : s.heap.get? T with
    | none => exact wpAny_pure q1
    | some oT =>
      simp only [Option.isNone_some, Bool.false_eq_true, if_false]
      apply wpAny_bind; refine wpAny_field hz rfl (x := .bool f) rfl ?_
      cases f with
      | true => rw [if_neg (by decide)]; exact wpAny_pure (q2 s.heap hz (Heap.SameBut.refl _ _))
      | false => rw [if_pos (by decide)]; exact wpAny_bind (wpAny_setField_rec hz (by simp) fun h1 y1 y2 => wpAny_pure (q2 h1 y1 y2))
theorem znext_item {Q : Value → Shared → Prop} (S : ZipSep2 z TI TO i1 i2 fp1 fp2) (D1 : Draws prog w A i1 fp1 n1 P1 St1) (D2 : Draws prog w A i2 fp2 n2 P2 St2) (hz : ZR s.heap z TI TO v0 f) (o : Vo v0)
    (hTI : IsTupOf2 s.heap TI (.ref i1) (.ref i2)) (hTO : IsTupOf2 s.heap TO a1 a2) (st1 : St1 i s.heap) (st2 : St2 i s.heap) (l1 : i < n1) (l2 : i < n2)
    (hQ : ∀ x1 x2 h' tk u f', P1 i x1 → P2 i x2 → Vo u → ZR h' z TI TO u f' → (∃ b1 b2, IsTupOf2 h' TO b1 b2) → St1 (i + 1) h' → St2 (i + 1) h' → IsTupOf2 h' s.heap.objs.size x1 x2 → h'.objs.size = s.heap.objs.size + 1 →
      (∀ c o, c ≠ z → c ≠ TO → c ≠ i1 → c ≠ i2 → s.heap.get? c = some o → h'.get? c = some o) → Q (.ref s.heap.objs.size) { s with heap := h', toks := tk }) :
    wpAny (model prog w) A (Builtin.«zip.__next__» ⟨[.ref z], []⟩) (fun fin s' => ∃ v, fin = .done (.ret v) ∧ Q v s') E s := by
  obtain ⟨hp, g, d, tk0, os⟩ := s
  show wpAny _ _ (field (.ref z) 2 >>= _) _ _ _
  apply wpAny_bind; refine wpAny_field hz rfl (x := .bool false) rfl ?_
  show wpAny _ _ (field (.ref z) 3 >>= _) _ _ _
  apply wpAny_bind; refine wpAny_field hz rfl (x := .ref TI) rfl ?_
  apply wpAny_bind; refine wpAny_seqItems hTI rfl ?_
  show wpAny _ _ (Builtin.SmallTypes.ownedTupleIsFree (.ref z) >>= _) _ _ _
  apply wpAny_bind; refine zfree hz o ?_ fun g0 hz0 hs0 => ?_
  · simp only [if_true]
    apply wpAny_bind; apply wpAny_rule
    apply wpAny_bind; refine wpAny_field hz rfl (x := .ref TO) rfl ?_
    apply wpAny_bind; refine wpAny_setField_rec hz (by simp) fun g0 hz0 hs0 => ?_
    replace hz0 : ZR g0 z TI TO .ellipsis f := hz0
    replace hs0 : Heap.SameBut z hp g0 := hs0
    apply wpAny_bind
    simp only [List.zipIdx_cons, List.zipIdx_nil, List.forIn_cons, List.forIn_nil]
    apply wpAny_bind; apply wpAny_bind; apply wpAny_onRaise
    show wpAny _ _ (Builtin.SmallTypes.nextOf (.ref i1) >>= _) _ _ ⟨g0, g, d, tk0, os⟩
    apply wpAny_bind; refine D1.item i _ _ _ l1 (D1.over st1 hs0 S.zf1) fun x1 p1 tk1 hx1 sn1 hp1 => wpAny_pure ?_
    replace hp1 : Heap.SameBut i1 g0 p1 := hp1
    have u1 : IsTupOf2 p1 TO a1 a2 := hp1.extBut _ _ S.Ti1 (hs0.extBut _ _ S.TOz hTO)
    apply wpAny_bind; refine wpAny_seqItems (s := ⟨p1, g, d, tk1, os⟩) u1 rfl ?_
    apply wpAny_bind; refine updateSeq_IsTupOf2 (s := ⟨p1, g, d, tk1, os⟩) u1 fun g1 t1 hs1 => ?_
    replace t1 : IsTupOf2 g1 TO x1 a2 := t1
    replace hs1 : Heap.SameBut TO p1 g1 := hs1
    apply wpAny_bind; refine wpAny_letGo (wpAny_pure ?_)
    apply wpAny_bind; apply wpAny_bind; apply wpAny_onRaise
    show wpAny _ _ (Builtin.SmallTypes.nextOf (.ref i2) >>= _) _ _ ⟨g1, g, d, tk1, os⟩
    apply wpAny_bind; refine D2.item i _ _ _ l2 (D2.over (D2.over (D2.over st2 hs0 S.zf2) hp1 S.sep1_2) hs1 S.Tf2) fun x2 p2 tk2 hx2 sn2 hp2 => wpAny_pure ?_
    replace hp2 : Heap.SameBut i2 g1 p2 := hp2
    have u2 : IsTupOf2 p2 TO x1 a2 := hp2.extBut _ _ S.Ti2 t1
    apply wpAny_bind; refine wpAny_seqItems (s := ⟨p2, g, d, tk2, os⟩) u2 rfl ?_
    apply wpAny_bind; refine updateSeq_IsTupOf2 (s := ⟨p2, g, d, tk2, os⟩) u2 fun g2 t2 hs2 => ?_
    replace t2 : IsTupOf2 g2 TO x1 x2 := t2
    replace hs2 : Heap.SameBut TO p2 g2 := hs2
    apply wpAny_bind; refine wpAny_letGo (wpAny_pure (wpAny_pure ?_))
    apply wpAny_bind; refine wpAny_seqItems (s := ⟨g2, g, d, tk2, os⟩) t2 rfl ?_
    apply wpAny_bind; refine wpAny_newTuple ?_
    have ez : g2.objs.size = hp.objs.size := by rw [hs2.1, hp2.1, hs1.1, hp1.1, hs0.1]
    have zz : ZR g2 z TI TO .ellipsis f := hs2.extBut _ _ S.TOz.symm (hp2.extBut _ _ S.zi2 (hs1.extBut _ _ S.TOz.symm (hp1.extBut _ _ S.zi1 hz0)))
    have kk : ∀ c o, c ≠ z → c ≠ TO → c ≠ i1 → c ≠ i2 → hp.get? c = some o → g2.get? c = some o := fun c o cz cT c1 c2 e => hs2.extBut _ _ cT (hp2.extBut _ _ c2 (hs1.extBut _ _ cT (hp1.extBut _ _ c1 (hs0.extBut _ _ cz e))))
    have j1 : St1 (i + 1) g2 := D1.over (D1.over (D1.over sn1 hs1 S.Tf1) hp2 S.sep2_1) hs2 S.Tf1
    have j2 : St2 (i + 1) g2 := D2.over sn2 hs2 S.Tf2
    have zlt : z < g2.objs.size := Heap.lt_size zz
    show wpAny _ _ (Builtin.SmallTypes.ownedTupleHandOut (.ref z) (.ref g2.objs.size) >>= _) _ _ ⟨g2.push { cls := .type "tuple", data := .seq #[x1, x2] }, g, d, tk2, os⟩
    apply wpAny_bind; unfold Builtin.SmallTypes.ownedTupleHandOut
    have z6 : ZR (g2.push { cls := .type "tuple", data := .seq #[x1, x2] }) z TI TO .ellipsis f := Heap.get?_push_of_some _ zz
    apply wpAny_bind; refine wpAny_setField_rec z6 (by simp) fun h7 z7 s7 => ?_
    replace z7 : ZR h7 z TI TO (rawInt g2.objs.size) f := z7
    refine wpAny_setField_rec z7 (by simp) fun h8 z8 s8 => ?_
    replace z8 : ZR h8 z TI TO (rawInt g2.objs.size) false := z8
    replace s7 : Heap.SameBut z (g2.push { cls := .type "tuple", data := .seq #[x1, x2] }) h7 := s7
    replace s8 : Heap.SameBut z h7 h8 := s8
    have up : ∀ c o, c ≠ z → g2.get? c = some o → h8.get? c = some o := fun c o c1 e => s8.extBut _ _ c1 (s7.extBut _ _ c1 (Heap.get?_push_of_some _ e))
    have t8 : IsTupOf2 h8 g2.objs.size x1 x2 := s8.extBut _ _ (Nat.ne_of_gt zlt) (s7.extBut _ _ (Nat.ne_of_gt zlt) (Heap.get?_push_size _ rfl))
    have e8 : h8.objs.size = g2.objs.size + 1 := by rw [s8.1, s7.1, Heap.size_push]
    rw [ez] at t8 e8
    refine wpAny_pure ⟨_, rfl, ?_⟩
    show Q (.ref g2.objs.size) ⟨h8, g, d, tk2, os⟩
    rw [ez]
    exact hQ x1 x2 h8 tk2 _ _ hx1 hx2 (.inr ⟨g2.objs.size, rfl⟩) z8 ⟨_, _, up _ _ S.TOz t2⟩ (D1.frame _ _ _ j1 fun b hb o e => up b o (fun q => S.zf1 (q ▸ hb)) e) (D2.frame _ _ _ j2 fun b hb o e => up b o (fun q => S.zf2 (q ▸ hb)) e) t8 e8 fun c o cz cT c1 c2 e => up c o cz (kk c o cz cT c1 c2 e)
  · simp only [Bool.false_eq_true, if_false]
    replace hs0 : Heap.SameBut z hp g0 := hs0
    apply wpAny_bind
    rw [← Array.forIn_toList]
    simp only [List.forIn_cons, List.forIn_nil]
    apply wpAny_bind; apply wpAny_bind; apply wpAny_holding
    show wpAny _ _ (Builtin.SmallTypes.nextOf (.ref i1) >>= _) _ _ ⟨g0, g, d, tk0, os⟩
    apply wpAny_bind; refine D1.item i _ _ _ l1 (D1.over st1 hs0 S.zf1) fun x1 p1 tk1 hx1 sn1 hp1 => wpAny_pure (wpAny_pure ?_)
    replace hp1 : Heap.SameBut i1 g0 p1 := hp1
    apply wpAny_bind; apply wpAny_bind; apply wpAny_holding
    show wpAny _ _ (Builtin.SmallTypes.nextOf (.ref i2) >>= _) _ _ ⟨p1, g, d, tk1, os⟩
    apply wpAny_bind; refine D2.item i _ _ _ l2 (D2.over (D2.over st2 hs0 S.zf2) hp1 S.sep1_2) fun x2 p2 tk2 hx2 sn2 hp2 => wpAny_pure (wpAny_pure (wpAny_pure ?_))
    replace hp2 : Heap.SameBut i2 p1 p2 := hp2
    show wpAny _ _ (newTuple [x1, x2] >>= _) _ _ ⟨p2, g, d, tk2, os⟩
    apply wpAny_bind; refine wpAny_newTuple (wpAny_pure ⟨_, rfl, ?_⟩)
    have ez : p2.objs.size = hp.objs.size := by rw [hp2.1, hp1.1, hs0.1]
    have zz : ZR p2 z TI TO v0 true := hp2.extBut _ _ S.zi2 (hp1.extBut _ _ S.zi1 hz0)
    have kk : ∀ c o, c ≠ z → c ≠ i1 → c ≠ i2 → hp.get? c = some o → p2.get? c = some o := fun c o cz c1 c2 e => hp2.extBut _ _ c2 (hp1.extBut _ _ c1 (hs0.extBut _ _ cz e))
    have t8 : IsTupOf2 (p2.push { cls := .type "tuple", data := .seq #[x1, x2] }) p2.objs.size x1 x2 := Heap.get?_push_size _ rfl
    have e8 : (p2.push { cls := .type "tuple", data := .seq #[x1, x2] }).objs.size = p2.objs.size + 1 := Heap.size_push ..
    show Q (.ref p2.objs.size) ⟨p2.push { cls := .type "tuple", data := .seq #[x1, x2] }, g, d, tk2, os⟩
    rw [ez] at t8 e8 ⊢
    exact hQ x1 x2 _ tk2 _ _ hx1 hx2 o (Heap.get?_push_of_some _ zz) ⟨_, _, Heap.get?_push_of_some _ (kk _ _ S.TOz S.Ti1 S.Ti2 hTO)⟩ (D1.frame _ _ _ (D1.over sn1 hp2 S.sep2_1) fun b hb o e => Heap.get?_push_of_some _ e) (D2.frame _ _ _ sn2 fun b hb o e => Heap.get?_push_of_some _ e) t8 e8 fun c o cz cT c1 c2 e => Heap.get?_push_of_some _ (kk c o cz c1 c2 e)
theorem znext_end {Q : Fin → Shared → Prop} (S : ZipSep2 z TI TO i1 i2 fp1 fp2) (D1 : Draws prog w A i1 fp1 n1 P1 St1) (D2 : Draws prog w A i2 fp2 n2 P2 St2) (hz : ZR s.heap z TI TO v0 f) (o : Vo v0)
    (hTI : IsTupOf2 s.heap TI (.ref i1) (.ref i2)) (hTO : IsTupOf2 s.heap TO a1 a2) (st1 : St1 i s.heap) (st2 : St2 i s.heap) (l1 : i ≤ n1) (l2 : i ≤ n2) (hend : i = n1 ∨ i = n2)
    (hE : ∀ h' tk e, (∀ c o, c ≠ z → c ≠ TO → c ≠ i1 → c ≠ i2 → s.heap.get? c = some o → h'.get? c = some o) → (∃ o, h'.get? e = some o ∧ o.cls = .type "StopIteration") → E (.ref e) { s with heap := h', toks := tk }) :
    wpAny (model prog w) A (Builtin.«zip.__next__» ⟨[.ref z], []⟩) Q E s := by
  obtain ⟨hp, g, d, tk0, os⟩ := s
  show wpAny _ _ (field (.ref z) 2 >>= _) _ _ _
  apply wpAny_bind; refine wpAny_field hz rfl (x := .bool false) rfl ?_
  show wpAny _ _ (field (.ref z) 3 >>= _) _ _ _
  apply wpAny_bind; refine wpAny_field hz rfl (x := .ref TI) rfl ?_
  apply wpAny_bind; refine wpAny_seqItems hTI rfl ?_
  show wpAny _ _ (Builtin.SmallTypes.ownedTupleIsFree (.ref z) >>= _) _ _ _
  apply wpAny_bind; refine zfree hz o ?_ fun g0 hz0 hs0 => ?_
  · simp only [if_true]
    apply wpAny_bind; apply wpAny_rule
    apply wpAny_bind; refine wpAny_field hz rfl (x := .ref TO) rfl ?_
    apply wpAny_bind; refine wpAny_setField_rec hz (by simp) fun g0 hz0 hs0 => ?_
    replace hz0 : ZR g0 z TI TO .ellipsis f := hz0
    replace hs0 : Heap.SameBut z hp g0 := hs0
    apply wpAny_bind
    simp only [List.zipIdx_cons, List.zipIdx_nil, List.forIn_cons, List.forIn_nil]
    apply wpAny_bind; apply wpAny_bind; apply wpAny_onRaise
    show wpAny _ _ (Builtin.SmallTypes.nextOf (.ref i1) >>= _) _ _ ⟨g0, g, d, tk0, os⟩
    by_cases m1 : i < n1
    · apply wpAny_bind; refine D1.item i _ _ _ m1 (D1.over st1 hs0 S.zf1) fun x1 p1 tk1 hx1 sn1 hp1 => wpAny_pure ?_
      replace hp1 : Heap.SameBut i1 g0 p1 := hp1
      have u1 : IsTupOf2 p1 TO a1 a2 := hp1.extBut _ _ S.Ti1 (hs0.extBut _ _ S.TOz hTO)
      apply wpAny_bind; refine wpAny_seqItems (s := ⟨p1, g, d, tk1, os⟩) u1 rfl ?_
      apply wpAny_bind; refine updateSeq_IsTupOf2 (s := ⟨p1, g, d, tk1, os⟩) u1 fun g1 t1 hs1 => ?_
      replace hs1 : Heap.SameBut TO p1 g1 := hs1
      apply wpAny_bind; refine wpAny_letGo (wpAny_pure ?_)
      have m2 : i = n2 := by omega
      apply wpAny_bind; apply wpAny_bind; apply wpAny_onRaise
      show wpAny _ _ (Builtin.SmallTypes.nextOf (.ref i2) >>= _) _ _ ⟨g1, g, d, tk1, os⟩
      apply wpAny_bind; refine D2.done ⟨g1, g, d, tk1, os⟩ _ _ (by rw [← m2]; exact D2.over (D2.over (D2.over st2 hs0 S.zf2) hp1 S.sep1_2) hs1 S.Tf2) fun q e hq he => ?_
      replace hq : Heap.ExtBut i2 g1 q := hq
      obtain ⟨oe, ho, hc⟩ := he
      replace ho : q.get? e = some oe := ho
      have zq : ZR q z TI TO .ellipsis f := hq _ _ S.zi2 (hs1.extBut _ _ S.TOz.symm (hp1.extBut _ _ S.zi1 hz0))
      have ne : e ≠ z := fun x => by subst x; rw [zq] at ho; cases ho; simp at hc
      refine wpAny_setField_rec (s := ⟨q, g, d, tk1, os⟩) zq (by simp) fun q' _ hq' => ?_
      replace hq' : Heap.SameBut z q q' := hq'
      exact hE q' tk1 e (fun c o cz cT c1 c2 x => hq'.extBut _ _ cz (hq _ _ c2 (hs1.extBut _ _ cT (hp1.extBut _ _ c1 (hs0.extBut _ _ cz x))))) ⟨oe, hq'.extBut _ _ ne ho, hc⟩
    · have m2 : i = n1 := by omega
      apply wpAny_bind; refine D1.done ⟨g0, g, d, tk0, os⟩ _ _ (by rw [← m2]; exact D1.over st1 hs0 S.zf1) fun q e hq he => ?_
      replace hq : Heap.ExtBut i1 g0 q := hq
      obtain ⟨oe, ho, hc⟩ := he
      replace ho : q.get? e = some oe := ho
      have zq : ZR q z TI TO .ellipsis f := hq _ _ S.zi1 hz0
      have ne : e ≠ z := fun x => by subst x; rw [zq] at ho; cases ho; simp at hc
      refine wpAny_setField_rec (s := ⟨q, g, d, tk0, os⟩) zq (by simp) fun q' _ hq' => ?_
      replace hq' : Heap.SameBut z q q' := hq'
      exact hE q' tk0 e (fun c o cz cT c1 c2 x => hq'.extBut _ _ cz (hq _ _ c1 (hs0.extBut _ _ cz x))) ⟨oe, hq'.extBut _ _ ne ho, hc⟩
  · simp only [Bool.false_eq_true, if_false]
    replace hs0 : Heap.SameBut z hp g0 := hs0
    apply wpAny_bind
    rw [← Array.forIn_toList]
    simp only [List.forIn_cons, List.forIn_nil]
    apply wpAny_bind; apply wpAny_bind; apply wpAny_holding
    show wpAny _ _ (Builtin.SmallTypes.nextOf (.ref i1) >>= _) _ _ ⟨g0, g, d, tk0, os⟩
    by_cases m1 : i < n1
    · apply wpAny_bind; refine D1.item i _ _ _ m1 (D1.over st1 hs0 S.zf1) fun x1 p1 tk1 hx1 sn1 hp1 => wpAny_pure (wpAny_pure ?_)
      replace hp1 : Heap.SameBut i1 g0 p1 := hp1
      have m2 : i = n2 := by omega
      apply wpAny_bind; apply wpAny_bind; apply wpAny_holding
      show wpAny _ _ (Builtin.SmallTypes.nextOf (.ref i2) >>= _) _ _ ⟨p1, g, d, tk1, os⟩
      apply wpAny_bind; refine D2.done ⟨p1, g, d, tk1, os⟩ _ _ (by rw [← m2]; exact D2.over (D2.over st2 hs0 S.zf2) hp1 S.sep1_2) fun q e hq he => ?_
      replace hq : Heap.ExtBut i2 p1 q := hq
      exact hE q tk1 e (fun c o cz cT c1 c2 x => hq _ _ c2 (hp1.extBut _ _ c1 (hs0.extBut _ _ cz x))) he
    · have m2 : i = n1 := by omega
      apply wpAny_bind; refine D1.done ⟨g0, g, d, tk0, os⟩ _ _ (by rw [← m2]; exact D1.over st1 hs0 S.zf1) fun q e hq he => ?_
      replace hq : Heap.ExtBut i1 g0 q := hq
      exact hE q tk0 e (fun c o cz cT c1 c2 x => hq _ _ c1 (hs0.extBut _ _ cz x)) he
theorem zpy_item {Q : Option Value → Shared → Prop} (S : ZipSep2 z TI TO i1 i2 fp1 fp2) (D1 : Draws prog w A.in1 i1 fp1 n1 P1 St1) (D2 : Draws prog w A.in1 i2 fp2 n2 P2 St2) (hz : ZR s.heap z TI TO v0 f) (o : Vo v0)
    (hTI : IsTupOf2 s.heap TI (.ref i1) (.ref i2)) (hTO : IsTupOf2 s.heap TO a1 a2) (st1 : St1 i s.heap) (st2 : St2 i s.heap) (l1 : i < n1) (l2 : i < n2)
    (hQ : ∀ x1 x2 h' tk u f', P1 i x1 → P2 i x2 → Vo u → ZR h' z TI TO u f' → (∃ b1 b2, IsTupOf2 h' TO b1 b2) → St1 (i + 1) h' → St2 (i + 1) h' → IsTupOf2 h' s.heap.objs.size x1 x2 → h'.objs.size = s.heap.objs.size + 1 →
      (∀ c o, c ≠ z → c ≠ TO → c ≠ i1 → c ≠ i2 → s.heap.get? c = some o → h'.get? c = some o) → Q (some (.ref s.heap.objs.size)) { s with heap := h', toks := tk }) :
    wpAny (model prog w) A (pyNext (.ref z)) Q E s := by
  have ty : s.TypeIs (.ref z) "zip" := ⟨_, hz, rfl⟩
  unfold pyNext
  refine wpAny_bind (wpAny_attempt (wpAny_callSpecial?_slot (name := Str.ofString "__next__") ty F.slot_zip_next (wpAny_call_entry F.slot_zip_next ty F.entry_zip_next (znext_item S D1 D2 hz o hTI hTO st1 st2 l1 l2 fun x1 x2 h' tk u f' y1 y2 y3 y4 y5 y6 y7 y8 y9 y10 => wpAny_pure (hQ x1 x2 h' tk u f' y1 y2 y3 y4 y5 y6 y7 y8 y9 y10)) (F.args_zip_next_1 _))))
theorem zpy_end {Q : Option Value → Shared → Prop} (S : ZipSep2 z TI TO i1 i2 fp1 fp2) (D1 : Draws prog w A.in1 i1 fp1 n1 P1 St1) (D2 : Draws prog w A.in1 i2 fp2 n2 P2 St2) (hz : ZR s.heap z TI TO v0 f) (o : Vo v0)
    (hTI : IsTupOf2 s.heap TI (.ref i1) (.ref i2)) (hTO : IsTupOf2 s.heap TO a1 a2) (st1 : St1 i s.heap) (st2 : St2 i s.heap) (l1 : i ≤ n1) (l2 : i ≤ n2) (hend : i = n1 ∨ i = n2)
    (hQ : ∀ h' tk, (∀ c o, c ≠ z → c ≠ TO → c ≠ i1 → c ≠ i2 → s.heap.get? c = some o → h'.get? c = some o) → Q none { s with heap := h', toks := tk }) : wpAny (model prog w) A (pyNext (.ref z)) Q E s := by
  have ty : s.TypeIs (.ref z) "zip" := ⟨_, hz, rfl⟩
  unfold pyNext
  refine wpAny_bind (wpAny_attempt (wpAny_callSpecial?_slot (name := Str.ofString "__next__") ty F.slot_zip_next (wpAny_call_entry F.slot_zip_next ty F.entry_zip_next (znext_end S D1 D2 hz o hTI hTO st1 st2 l1 l2 hend fun h' tk e hk he => ?_) (F.args_zip_next_1 _))))
  obtain ⟨oe, ho, hc⟩ := he
  refine wpAny_bind (wpAny_isInstance (T := "StopIteration") (b := true) ⟨oe, ho, hc⟩ isSubtype_stop (wpAny_pure (hQ _ _ hk)))
theorem zpy_iter {Q : Value → Shared → Prop} (hz : ZR s.heap z TI TO v0 f) (h : Q (.ref z) s) : wpAny (model prog w) A (pyIter (.ref z)) Q E s := by
  have ty : s.TypeIs (.ref z) "zip" := ⟨_, hz, rfl⟩
  refine wpAny_pyIter_slot ty F.slot_zip_iter (wpAny_call_entry F.slot_zip_iter ty F.entry_zip_iter ?_ (F.args_zip_iter_1 _))
  exact wpAny_pure ⟨_, rfl, "zip", _, ty, F.slot_zip_next.lookup, h⟩
end
theorem turn_zipN {P : Program} {w : World} {K : PySem.W.Frag} {nm : Str} {tpos : Pos} {sa sb : Sk} {z TI TO i1 i2 : Addr} (S : ZipSep2 z TI TO i1 i2 (i1 :: sa.cells) (i2 :: sb.cells)) (n1 : i1 ∉ sa.cells) (n2 : i2 ∉ sb.cells) :
    Turn P w K (.Name nm tpos) (ItzZ K sa sb) [z, TI, TO, i1, i2] z (fun i h => (∃ v0 f, Vo v0 ∧ ZR h z TI TO v0 f) ∧ IsTupOf2 h TI (.ref i1) (.ref i2) ∧ (∃ x y, IsTupOf2 h TO x y) ∧ sa.at h i1 i ∧ sb.at h i2 i) where
  mem := by simp
  obj := fun i h st c hc => by
    obtain ⟨⟨v0, f, _, hz⟩, hTI, ⟨x, y, hTO⟩, h1, h2⟩ := st
    have e' : c = z ∨ c = TI ∨ c = TO ∨ c = i1 ∨ c = i2 := by simpa using hc
    rcases e' with q | q | q | q | q <;> rw [q]
    · exact ⟨_, hz, fun v q => nomatch q⟩
    · exact ⟨_, hTI, fun v q => nomatch q⟩
    · exact ⟨_, hTO, fun v q => nomatch q⟩
    · exact Sk.obj h1
    · exact Sk.obj h2
  keep := fun i h h' st k => by
    obtain ⟨⟨v0, f, o, hz⟩, hTI, ⟨x, y, hTO⟩, h1, h2⟩ := st
    exact ⟨⟨v0, f, o, k z (by simp) _ hz⟩, k TI (by simp) _ hTI, ⟨x, y, k TO (by simp) _ hTO⟩, Sk.keep h1 fun o q => k i1 (by simp) o q, Sk.keep h2 fun o q => k i2 (by simp) o q⟩
  item := by
    intro X hP hw hK hc i pins s σ H E I hf st hg
    subst hP hw hK
    obtain ⟨⟨v0, f, o, hz⟩, hTI, ⟨x0, y0, hTO⟩, h1, h2⟩ := st
    obtain ⟨xs, ys, x, y, hqx, hqy, hx, hy⟩ := hg
    have hh : X.A.in1.handled = none := I.ok.hd hc
    obtain ⟨P1, St1, D1, st1, hP1, hS1⟩ := Sk.draws I hh hqx h1 n1
    obtain ⟨P2, St2, D2, st2, hP2, hS2⟩ := Sk.draws I hh hqy h2 n2
    refine zpy_item S D1 D2 hz o hTI hTO st1 st2 (List.getElem?_eq_some_iff.mp hx).1 (List.getElem?_eq_some_iff.mp hy).1 fun u u2 h' tk v1 f1 hu hu2 o1 z1 TO1 st1' st2' hT hsz hk => ?_
    obtain ⟨x', ex, ru⟩ := hP1 i u hu
    obtain ⟨y', ey, ru2⟩ := hP2 i u2 hu2
    rw [hx] at ex; rw [hy] at ey
    cases ex; cases ey
    refine ⟨_, rfl, wpAny_pure ?_⟩
    have new : ObjOk X.prog X.w (upd H s.heap.objs.size (.tup [x, y])) h' s.heap.objs.size (.tup [x, y]) := ⟨by show 2 ≤ sizeLine; decide, [u, u2], .cons ru (.cons ru2 .nil), ⟨_, hT, rfl, _, rfl⟩⟩
    have I1 : Inv X pins σ (upd H s.heap.objs.size (.tup [x, y])) { s with heap := h', toks := tk } :=
      I.turnedNew (t' := tk) (ch := [z, TI, TO, i1, i2]) (fun c o hb q => hk c o (fun q' => hb (by simp [q'])) (fun q' => hb (by simp [q'])) (fun q' => hb (by simp [q'])) (fun q' => hb (by simp [q'])) q) hf (Nat.le_refl _) new
    refine ⟨.ref s.heap.objs.size, _, I1, rfl, ⟨_, x, y, rfl, I.hok.fresh (Nat.le_refl _), rfl, fun l hl => by rw [Sk.inj I hl hqx]; exact hx, fun l hl => by rw [Sk.inj I hl hqy]; exact hy⟩, ⟨⟨v1, f1, o1, z1⟩, hk _ _ S.TIz S.TITO S.TIi1 S.TIi2 hTI, TO1, hS1 _ _ st1', hS2 _ _ st2'⟩, fun c hcm => ?_⟩
    have hlt : c < s.heap.objs.size := by
      have e' : c = z ∨ c = TI ∨ c = TO ∨ c = i1 ∨ c = i2 := by simpa using hcm
      rcases e' with q | q | q | q | q <;> rw [q]
      · exact Heap.lt_size hz
      · exact Heap.lt_size hTI
      · exact Heap.lt_size hTO
      · obtain ⟨_, e1, _⟩ := Sk.obj h1; exact Heap.lt_size e1
      · obtain ⟨_, e2, _⟩ := Sk.obj h2; exact Heap.lt_size e2
    rw [upd_ne (Nat.ne_of_lt hlt)]
    exact (hf c hcm).1
  done := by
    intro X hP hw hK hc i pins s σ H E I hf st hg
    subst hP hw hK
    obtain ⟨⟨v0, f, o, hz⟩, hTI, ⟨x0, y0, hTO⟩, h1, h2⟩ := st
    obtain ⟨xs, ys, hqx, hqy, g1, g2, hend⟩ := hg
    have hh : X.A.in1.handled = none := I.ok.hd hc
    obtain ⟨P1, St1, D1, st1, hP1, hS1⟩ := Sk.draws I hh hqx h1 n1
    obtain ⟨P2, St2, D2, st2, hP2, hS2⟩ := Sk.draws I hh hqy h2 n2
    exact zpy_end S D1 D2 hz o hTI hTO st1 st2 g1 g2 hend fun h' tk hk => ⟨rfl, I.turnedL (t' := tk) (ch := [z, TI, TO, i1, i2]) (fun c o hb q => hk c o (fun q' => hb (by simp [q'])) (fun q' => hb (by simp [q'])) (fun q' => hb (by simp [q'])) (fun q' => hb (by simp [q'])) q) hf⟩
  self := fun A i s Q E st h => let ⟨v0, f, _, hz⟩ := st.1; zpy_iter hz h
theorem pi_zipN {X : Cx} {e e2 : Expr} {ta : TA} {p pos tpos : Pos} {nm : Str} (hg : Gl X "zip") (hm : X.mg "zip" = none) (ha : PA X [e, e2] ta)
    (hs : starEach [e, e2] X.env = (false, eval e X.env) :: starEach [e2] X.env) (hpl : (backTo pos (starEach [e2] X.env)).any (·.1) = false) :
    PI X (.Name nm tpos) (.Call (.Name "zip" p) [e, e2] [] pos) (iZipZ X.K ta) := by
  refine ⟨fun pins s σ H R I h => Call_ (ld_blt I hg hm PyProof.Rows.boot_zip (PyProof.Rows.callWith_type1 (thn (ha.run pos pins s σ H _ I h) fun us s1 ⟨vs, H1, I1, r1, q1⟩ => ?_) hs hpl))⟩
  obtain ⟨sa, sb, xs, ys, ex, hqx, hqy, q⟩ := q1
  subst ex
  cases r1 with
  | cons r rr =>
    cases rr with
    | cons r' rr =>
      cases rr
      obtain ⟨o1, Hh1, B1, h1, at1, cl1⟩ := Sk.begins I1 hqx r
      obtain ⟨o2, Hh2, B2, h2, at2, cl2⟩ := Sk.begins I1 hqy r'
      refine zip_begins2 B1 B2 h1 h2 fun h' hz hTI hTO g1 g2 hsz hk => wpAny_pyIter_zip hz ?_
      have I2 : Inv X pins σ H1 { s1 with heap := h' } := I1.kept (t' := s1.toks) hk
      refine ⟨s1.heap.objs.size + 4, [s1.heap.objs.size + 4, s1.heap.objs.size + 2, s1.heap.objs.size + 3, s1.heap.objs.size, s1.heap.objs.size + 1], _, _, H1, rfl, I2, turn_zipN (zip_sep2 cl1 cl2) (fun z => absurd (cl1 _ z) (Nat.lt_irrefl _)) (fun z => absurd (cl2 _ z) (by show ¬ (s1.heap.objs.size + 1 < s1.heap.objs.size); omega)),
        ⟨⟨.none, false, .inl rfl, hz⟩, hTI, ⟨_, _, hTO⟩, at1 _ _ g1, at2 _ _ g2⟩, fun c hcm => ?_, q (Sk.size I1 hqx) (Sk.size I1 hqy)⟩
      have hle : s1.heap.objs.size ≤ c := by
        have e' : c = s1.heap.objs.size + 4 ∨ c = s1.heap.objs.size + 2 ∨ c = s1.heap.objs.size + 3 ∨ c = s1.heap.objs.size ∨ c = s1.heap.objs.size + 1 := by simpa using hcm
        rcases e' with z | z | z | z | z <;> rw [z]
        · exact Nat.le_add_right _ _
        · exact Nat.le_add_right _ _
        · exact Nat.le_add_right _ _
        · exact Nat.le_refl _
        · exact Nat.le_add_right _ _
      exact I1.fpOk hle (I1.hok.fresh hle)
end Rm
set_option Elab.async false
set_option linter.all false
set_option autoImplicit false
set_option maxRecDepth 100000
set_option maxHeartbeats 1000000
/-! Soundness: sorted(d.items()), ints to ints; list(range(n)). -/
namespace Rm
open PySem PySem.Spec PyProof.Rows L2
section
variable {X : Cx}
def rItemsK : V → List V → Hp → VK → Prop := fun x xs H Q => ∃ (a : Addr) (kvs : List (Key × V)), x = .ref a ∧ xs = [] ∧ H a = some (.dK kvs) ∧ ∀ p, H p = none → Q (.ref p) (upd H p (L2.DX.itemsO p a))
theorem mt_itemsK : MtR X "dict.items" rItemsK := by
  intro pins s σ H x xs v us Q I rx rxs h
  obtain ⟨a, kvs, rfl, rfl, ha, q⟩ := h
  cases rx
  cases rxs
  obtain ⟨hz, hd, vs, kv, hdo⟩ := dk_of I.hok ha
  obtain ⟨ep, od, es, hod, hcd, hdd, hk, hpr, hn⟩ := hdo.dictAt
  refine DT.callItems (es := es) (ep := ep) hd ⟨od, hod, hcd, hdd⟩ ?_
  have hf : H s.heap.objs.size = none := I.hok.fresh (Nat.le_refl _)
  exact ⟨.ref s.heap.objs.size, upd H s.heap.objs.size (L2.DX.itemsO s.heap.objs.size a), I.laid (t' := s.toks) (fun b u e => Heap.get?_push_of_some _ e) (Nat.le_refl _) (L2.DX.itemsO_ok (Heap.get?_push_size _ rfl)), rfl, q _ hf⟩
/-- the pair that was made at an address -/
def pairAt (as : List Addr) (ks : List (Int × Int)) (v : Value) : Int × Int := match v with
  | .ref b => ((as.zip ks).lookup b).getD (0, 0)
  | _ => (0, 0)
theorem lookup_at : ∀ {as : List Addr} {ks : List (Int × Int)} {j : Nat} {b : Addr} {e : Int × Int}, as.Nodup → as[j]? = some b → ks[j]? = some e → (as.zip ks).lookup b = some e
  | [], _, j, b, e, _, h, _ => by simp at h
  | _ :: _, [], j, b, e, _, _, h => by simp at h
  | a :: as, k :: ks, 0, b, e, _, h1, h2 => by
    simp only [List.getElem?_cons_zero, Option.some.injEq] at h1 h2
    subst h1; subst h2
    simp [List.zip_cons_cons, List.lookup]
  | a :: as, k :: ks, j + 1, b, e, nd, h1, h2 => by
    simp only [List.getElem?_cons_succ] at h1 h2
    have n := List.nodup_cons.mp nd
    have ne : (b == a) = false := by
      refine beq_false_of_ne fun z => n.1 ?_
      rw [← z]; exact List.mem_of_getElem? h1
    rw [List.zip_cons_cons, List.lookup, ne]
    exact lookup_at n.2 h1 h2
theorem pairs_map {as : List Addr} {ks : List (Int × Int)} (nd : as.Nodup) (l : as.length = ks.length) : (as.map Value.ref).map (pairAt as ks) = ks := by
  apply List.ext_getElem
  · simp [l]
  · intro i h1 h2
    simp only [List.length_map] at h1
    simp only [List.getElem_map, pairAt]
    rw [lookup_at nd (List.getElem?_eq_getElem h1) (List.getElem?_eq_getElem h2)]
    rfl
def rSortItK : List V → Hp → VK → Prop := fun vs H Q => ∃ (p a : Addr) (ks : List (Int × Int)), vs = [.ref p] ∧ H p = some (L2.DX.itemsO p a) ∧ H a = some (.dK (ks.map fun e => ((Sum.inl e.1 : Key), V.int e.2))) ∧
  ∀ (H' : Hp) (l : Addr) (ps : List (Addr × Int × Int)), (∀ b o, H b = some o → H' b = some o) → H l = none → (∀ z ∈ ps, H z.1 = none) → (ps.map (·.2)).Perm ks → (ps.map (·.2)).Pairwise (fun e f => SrtO.lexB f e = false) → H' l = some (.lst (ps.map fun z => V.ref z.1)) →
    (∀ z ∈ ps, H' z.1 = some (.tup [.int z.2.1, .int z.2.2])) → Q (.ref l) H'
def adrOf : Value → Addr
  | .ref b => b
  | _ => 0
theorem cr_sortedItK (hc : X.calm = true) : CallR X (.builtin "sorted") rSortItK := by
  intro pins s σ H xs us Q I r h
  obtain ⟨p, a, ks, rfl, hp, ha, q⟩ := h
  obtain rfl := Vals.ref1 r
  have view : s.heap.IsItemsView p a := (show ObjOk X.prog X.w H s.heap p (L2.DX.itemsO p a) from I.hok p _ hp).1
  obtain ⟨z, hd, vs, kv, hdo⟩ := dk_of I.hok ha
  obtain ⟨ep, od, es, hod, hcd, hdd, hk0, hpr, hn⟩ := hdo.dictAt
  rw [List.length_map] at z
  have l1 : ks.length = vs.length := by have := Paired.length kv; rwa [List.length_map] at this
  have l2 : es.size = vs.length := by rw [← hpr.length]; simp
  have hh : X.A.handled = none := I.ok.hd hc
  refine DT.sortedI (es := es) (ep := ep) hh view ⟨od, hod, hcd, hdd⟩ (by omega) fun h' tk as hk hlt hl hG => ?_
  have lak : as.length = ks.length := by omega
  have nd : as.Nodup := List.Pairwise.imp (fun h => Nat.ne_of_lt h) hG.rise
  -- the pairs that were made
  have pr : ∀ (j : Nat) (b : Addr), as[j]? = some b → ∃ (e : Int × Int) (t u : Tok), ks[j]? = some e ∧ h'.get? b = some { cls := .type "tuple", data := .seq #[Value.int e.1 t, Value.int e.2 u] } := by
    intro j b hj
    obtain ⟨en, he, hg⟩ := hG.pairs j b hj
    have jl : j < ks.length := by rw [← lak]; exact (List.getElem?_eq_some_iff.mp hj).1
    have ek : ks[j]? = some ks[j] := List.getElem?_eq_getElem jl
    have ekv : (ks.map fun e => ((Sum.inl e.1 : Key), V.int e.2))[j]? = some ((Sum.inl ks[j].1 : Key), V.int ks[j].2) := by rw [List.getElem?_map, ek]; rfl
    obtain ⟨y, hy, hk1, hr1⟩ := LiI.paired_get kv ekv
    obtain ⟨k, x⟩ := y
    obtain ⟨hkey, hval⟩ := hpr.get? (e := en) (by rw [Array.getElem?_toList]; exact he) hy
    have hk1 : (Sum.inl ks[j].1 : Key) = k := hk1
    subst hk1
    obtain ⟨t, et⟩ := relV_key (show keyIs (Sum.inl ks[j].1 : Key) en.key = true from hkey)
    obtain ⟨u, eu⟩ := (show ∃ u, x = Value.int ks[j].2 u from hr1)
    refine ⟨ks[j], t, u, ek, ?_⟩
    rw [hg, et, hval, eu]
  have pf : ∀ (j : Nat) (b : Addr) (e : Int × Int), as[j]? = some b → ks[j]? = some e → pairAt as ks (.ref b) = e := by
    intro j b e hj he
    simp only [pairAt, lookup_at nd hj he]
    rfl
  have hob : (h'.push { cls := .type "list", data := .seq (as.map Value.ref).toArray }).get? h'.objs.size = some (seqObj "list" (as.map Value.ref).toArray 0) := Heap.get?_push_size _ rfl
  have kb : ∀ b o, s.heap.get? b = some o → (h'.push { cls := .type "list", data := .seq (as.map Value.ref).toArray }).get? b = some o := fun b o e => Heap.get?_push_of_some _ (hk b o e)
  have ne0 : ∀ b o, h'.get? b = some o → b ≠ h'.objs.size := fun b o e => Nat.ne_of_lt (Heap.lt_size e)
  generalize hh2 : h'.push { cls := .type "list", data := .seq (as.map Value.ref).toArray } = h2 at hob kb ⊢
  have ka : ∀ b o, h'.get? b = some o → h2.get? b = some o := fun b o e => by rw [← hh2]; exact Heap.get?_push_of_some _ e
  have at_ : ∀ v ∈ as.map Value.ref, ∃ (j : Nat) (b : Addr) (e : Int × Int), v = .ref b ∧ as[j]? = some b ∧ ks[j]? = some e := by
    intro v hv'
    obtain ⟨b, hb, rfl⟩ := List.mem_map.mp hv'
    obtain ⟨j, hj⟩ := List.mem_iff_getElem?.mp hb
    obtain ⟨e, _, _, he, _⟩ := pr j b hj
    exact ⟨j, b, e, rfl, hj, he⟩
  have isp : ∀ v ∈ as.map Value.ref, Srt.IsPair h2 v (pairAt as ks v).1 (pairAt as ks v).2 := by
    intro v hv'
    obtain ⟨j, b, e, rfl, hj, he⟩ := at_ v hv'
    obtain ⟨e', t, u, he', hg⟩ := pr j b hj
    have ee : e' = e := Option.some.inj (he'.symm.trans he)
    subst ee
    rw [pf j b e' hj he]
    exact ⟨b, _, t, u, 0, rfl, ka _ _ hg, rfl, rfl⟩
  refine wpAny_call_entry PyProof.Rows.slot_list_sort ⟨_, hob, rfl⟩ PyProof.Rows.entry_list_sort
    (SrtO.list_sort_ord (s := { s with heap := h2, toks := tk }) (SrtO.swo_lex (pairAt as ks)) hob (by rw [List.length_map]; omega) (fun h2' => ?_) fun out hs hb => ⟨.none, rfl, ?_⟩) (PyProof.Rows.args_list_sort _)
  · refine SrtO.pairs_sortableO (s := { s with heap := h2, toks := tk }) (by omega) isp fun o e => ?_
    have e' : some o = some (seqObj "list" (as.map Value.ref).toArray 0) := e.symm.trans hob
    cases e'
    intro c
    exact absurd (Value.type.inj c) (by decide)
  · show EP X pins σ Q (.ref h'.objs.size) { s with heap := sortedHeap h2 h'.objs.size (as.map Value.ref) out.toArray, toks := tk }
    have om : ∀ v ∈ out, ∃ (j : Nat) (b : Addr) (e : Int × Int), v = .ref b ∧ as[j]? = some b ∧ ks[j]? = some e := fun v hv => at_ v (hb.perm.mem_iff.mp hv)
    have kF : ∀ b o, b ≠ h'.objs.size → h2.get? b = some o → (sortedHeap h2 h'.objs.size (as.map Value.ref) out.toArray).get? b = some o := fun b o hb e => (PyProof.Rows.sortedHeap_old hb (Heap.lt_size e)).trans e
    have kS : ∀ b o, s.heap.get? b = some o → (sortedHeap h2 h'.objs.size (as.map Value.ref) out.toArray).get? b = some o := fun b o e => kF b o (ne0 _ _ (hk b o e)) (kb b o e)
    obtain ⟨eF, heF⟩ := PyProof.Rows.sortedHeap_at (vs := as.map Value.ref) (out := out.toArray) hob
    have I1 : Inv X pins σ H { s with heap := sortedHeap h2 h'.objs.size (as.map Value.ref) out.toArray, toks := tk } := I.kept (t' := tk) kS
    have hn0 : H h'.objs.size = none := I.hok.fresh (Nat.le_of_lt hlt)
    have hlen : (out.map fun v => V.ref (adrOf v)).length ≤ sizeLine := by
      rw [List.length_map, hb.perm.length_eq, List.length_map]; omega
    have rv : Vals (out.map fun v => V.ref (adrOf v)) out := by
      have : ∀ l : List Value, (∀ v ∈ l, ∃ b, v = .ref b) → Vals (l.map fun v => V.ref (adrOf v)) l := by
        intro l
        induction l with
        | nil => intro _; exact .nil
        | cons v l ih =>
          intro hv
          obtain ⟨b, rfl⟩ := hv v (List.mem_cons_self ..)
          exact .cons rfl (ih fun u hu => hv u (List.mem_cons_of_mem _ hu))
      exact this out fun v hv => by obtain ⟨_, b, _, e, _⟩ := om v hv; exact ⟨b, e⟩
    have I2 : Inv X pins σ (upd H h'.objs.size (.lst (out.map fun v => V.ref (adrOf v)))) { s with heap := sortedHeap h2 h'.objs.size (as.map Value.ref) out.toArray, toks := tk } :=
      I1.take (h' := sortedHeap h2 h'.objs.size (as.map Value.ref) out.toArray) (t' := tk) (fun b ob _ e => e) (I.fpOk (Nat.le_of_lt hlt) hn0) ⟨hlen, out, eF, rv, heF⟩
    obtain ⟨H2, I3, g, qt⟩ := L2.DX.takeT (P := fun b vs => vs = [.int (pairAt as ks (.ref b)).1, .int (pairAt as ks (.ref b)).2]) I as _ I2 nd fun b hb => by
      obtain ⟨j, hj⟩ := List.mem_iff_getElem?.mp hb
      obtain ⟨e, t, u, he, hg⟩ := pr j b hj
      have hbl : s.heap.objs.size ≤ b := Nat.le_of_lt (hG.above b hb)
      refine ⟨hbl, ?_, _, rfl, fun H3 => ⟨(by rw [sizeLine_eq]; show 2 ≤ 16777216; omega), [Value.int e.1 t, Value.int e.2 u], ?_, ⟨_, kF _ _ (ne0 _ _ hg) (ka _ _ hg), rfl, 0, rfl⟩⟩⟩
      · rw [upd_ne (ne0 _ _ hg)]
        exact I.hok.fresh hbl
      · rw [pf j b e hj he]
        exact .cons ⟨t, rfl⟩ (.cons ⟨u, rfl⟩ .nil)
    have gr : ∀ b o, H b = some o → H2 b = some o := fun b o e => g b o (by rw [upd_ne (ne_of_none e hn0)]; exact e)
    have em : (out.map fun v => (adrOf v, pairAt as ks v)).map (·.2) = out.map (pairAt as ks) := by rw [List.map_map]; rfl
    refine ⟨.ref h'.objs.size, H2, I3, rfl, q H2 h'.objs.size (out.map fun v => (adrOf v, pairAt as ks v)) gr hn0 (fun z hz => ?_) ?_ ?_ ?_ fun z hz => ?_⟩
    · obtain ⟨v, hv, rfl⟩ := List.mem_map.mp hz
      obtain ⟨j, b, e, rfl, hj, he⟩ := om v hv
      exact I.hok.fresh (Nat.le_of_lt (hG.above b (List.mem_of_getElem? hj)))
    · rw [em]
      have := hb.perm.map (pairAt as ks)
      rwa [pairs_map nd lak] at this
    · rw [em, List.pairwise_map]
      exact hs
    · rw [List.map_map]
      exact g _ _ upd_same
    · obtain ⟨v, hv, rfl⟩ := List.mem_map.mp hz
      obtain ⟨j, b, e, rfl, hj, he⟩ := om v hv
      obtain ⟨vs, rfl, hH⟩ := qt b (List.mem_of_getElem? hj)
      exact hH
end
end Rm
namespace Rm
open PySem PySem.Spec PyProof.Rows L2
theorem lexP_eq (p q : Int × Int) : lexP p q = SrtO.lexB p q := by
  rw [Bool.eq_iff_iff, SrtO.lexB_iff]
  simp [lexP]
theorem insP_perm (x : Int × Int) : ∀ l : List (Int × Int), (insP x l).Perm (x :: l)
  | [] => List.Perm.refl _
  | y :: l => by
    unfold insP
    split
    · exact ((insP_perm x l).cons y).trans (List.Perm.swap x y l)
    · exact List.Perm.refl _
theorem srtP_perm : ∀ l : List (Int × Int), (srtP l).Perm l
  | [] => List.Perm.refl _
  | x :: l => (insP_perm x _).trans ((srtP_perm l).cons x)
theorem lexP_iff {p q : Int × Int} : lexP p q = true ↔ p.1 < q.1 ∨ (p.1 = q.1 ∧ p.2 < q.2) := by rw [lexP_eq, SrtO.lexB_iff]
theorem lexP_no {p q : Int × Int} : lexP p q = false ↔ ¬ (p.1 < q.1 ∨ (p.1 = q.1 ∧ p.2 < q.2)) := by rw [lexP_eq, SrtO.lexB_no]
theorem insP_srt (x : Int × Int) : ∀ l : List (Int × Int), l.Pairwise (fun e f => lexP f e = false) → (insP x l).Pairwise (fun e f => lexP f e = false)
  | [], _ => by simp [insP]
  | y :: l, h => by
    unfold insP
    have h' := List.pairwise_cons.mp h
    split
    · rename_i q
      rw [List.pairwise_cons]
      refine ⟨fun z hz => ?_, insP_srt x l h'.2⟩
      rcases List.mem_cons.mp ((insP_perm x l).mem_iff.mp hz) with rfl | hz
      · have := lexP_iff.mp q
        rw [lexP_no]; omega
      · exact h'.1 z hz
    · rename_i q
      have q := lexP_no.mp (Bool.eq_false_iff.mpr q)
      rw [List.pairwise_cons]
      refine ⟨fun z hz => ?_, h⟩
      rcases List.mem_cons.mp hz with rfl | hz
      · rw [lexP_no]; exact q
      · have := lexP_no.mp (h'.1 z hz)
        rw [lexP_no]; omega
theorem srtP_srt : ∀ l : List (Int × Int), (srtP l).Pairwise (fun e f => lexP f e = false)
  | [] => List.Pairwise.nil
  | x :: l => insP_srt x _ (srtP_srt l)
theorem srtP_uniq : ∀ {l m : List (Int × Int)}, l.Perm m → l.Pairwise (fun e f => lexP f e = false) → m.Pairwise (fun e f => lexP f e = false) → l = m
  | [], m, p, _, _ => by rw [List.Perm.nil_eq p]
  | x :: l, [], p, _, _ => by have := p.length_eq; simp at this
  | x :: l, y :: m, p, hl, hm => by
    have hl' := List.pairwise_cons.mp hl
    have hm' := List.pairwise_cons.mp hm
    have e : x = y := by
      rcases List.mem_cons.mp (p.mem_iff.mp (List.mem_cons_self ..)) with e | hx
      · exact e
      · rcases List.mem_cons.mp (p.mem_iff.mpr (List.mem_cons_self (a := y) (l := m))) with e | hy
        · exact e.symm
        · have a := lexP_no.mp (hl'.1 y hy)
          have b := lexP_no.mp (hm'.1 x hx)
          exact Prod.ext (by omega) (by omega)
    subst e
    rw [srtP_uniq p.cons_inv hl'.2 hm'.2]
section
variable {c : Tx} {r : List Addr} {H H' : Hp} {h : LH}
theorem Ext.grow (g : ∀ b o, H b = some o → H' b = some o) : Ext c r H r H' :=
  ⟨⟨[], by simp, by simp⟩, fun a o q _ => g a o q, fun a vs q => by
    rcases q with (q | ⟨ob, q⟩) | q
    · exact .inl (.inl (g _ _ q))
    · exact .inl (.inr ⟨ob, g _ _ q⟩)
    · exact .inr q, fun a vs q => g _ _ q, fun a o u q => g _ _ q, fun a q => by
    cases e : H a with
    | none => rfl
    | some o => rw [g a o e] at q; cases q⟩
theorem HRel.grow (hh : HRel c r h H) (g : ∀ b o, H b = some o → H' b = some o) : HRel c r h H' :=
  ⟨hh.len, hh.nd, fun n a ob e1 e2 => by
    obtain ⟨z, q⟩ := hh.got e1
    exact RepO.ext (Ext.grow g) ((g a z q).trans q.symm) (hh.ob n a ob e1 e2)⟩
end
section
variable {c : Tx} {n : Nat} {X : Cx} {N : List Str} {sc : Scope}
theorem items_pairs {r : List Addr} {H : Hp} : ∀ {kvs : List (T × T)} {kv : List (Key × V)} {ps : List (Int × Int)}, RepK c r H kvs kv → prsI (kvs.map fun p => .tup [p.1, p.2]) = some ps → kv = ps.map fun e => ((Sum.inl e.1 : Key), V.int e.2)
  | [], kv, ps, z, e => by cases e; exact z
  | (p1, p2) :: r', kv, ps, z, e => by
    obtain ⟨k, v, ws, rfl, _, h1, h2, h3⟩ := z
    rw [List.map_cons] at e
    cases p1 with
    | int i =>
      cases p2 with
      | int j =>
        simp only [prsI] at e
        cases q : prsI (r'.map fun p => .tup [p.1, p.2]) with
        | none => rw [q] at e; cases e
        | some qs =>
          rw [q] at e
          cases e
          rw [items_pairs h3 q]
          have hk : kV k = .int i := h1
          have hv : v = .int j := h2
          cases k with
          | inl i' =>
            have : i' = i := by simpa [kV] using hk
            subst this
            rw [hv]; rfl
          | inr x => simp [kV] at hk
      | _ => cases e
    | _ => cases e
/-- sorted(e.items()) -/
theorem ok_sitm (C : Cm c n N sc X) {a : Ex} {e : Expr} {p ap cp pos : Pos} (m1 : glB sc "sorted" = true) (hl : (ap.endLine == cp.line) = true) (hr : recvB e = true) (ha : OkE c n X a e) : OkE c n X (.bix .sorted (.itm a)) (.Call (.Name "sorted" p) [.Call (.Attribute e "items" ap) [] [] cp] [] pos) := by
  obtain ⟨g1, g2⟩ := C.gl m1
  have hm : X.mg "sorted" = none := by rw [C.emg]; exact C.tx.bl _ (by decide +kernel)
  have ps : PE X (.Call (.Attribute e "items" ap) [] [] cp) (tBM0 X.K "dict" rItemsK (tEx c n a)) :=
    pe_bm0 PySem.F.plainAttrs_dict PySem.F.slot_dict_items PySem.F.type_dict_items mt_itemsK ha.pe (attr_ok hr) hl
  refine okE_pe (PE.imp' (pe_callB (id := "sorted") (cr_sortedItK C.calm) g1 hm (by decide +kernel) (pa_cons ps pa_nil rfl) (by decide +kernel) g2 rfl rfl) fun sv H Q ⟨s, h, r, SR, hh, o⟩ => ?_) rfl (fun _ => rfl)
  simp only [evE, evI, bd_assoc] at o
  refine tEx_bd SR hh o fun v H1 d h1 r1 z fr hh1 ee SR1 o1 => ?_
  cases e1 : dctOf d h1 with
  | none => rw [e1] at o1; exact o1.elim
  | some kk =>
    obtain ⟨k, kvs⟩ := kk
    rw [e1] at o1
    cases k with
    | true => exact o1.elim
    | false =>
    simp only [Bool.false_eq_true, if_false, bd_ok] at o1
    obtain ⟨d2, e2, q2⟩ := Out.some (o1.mv bk_D ee)
    simp only [bixD] at e2
    cases e3 : prsI (kvs.map fun p => .tup [p.1, p.2]) with
    | none => rw [e3] at e2; cases e2
    | some qs =>
      rw [e3] at e2
      cases e2
      obtain ⟨b, rfl, zd⟩ := dct_read z hh1 e1
      obtain ⟨kv, z1, z2⟩ := zd
      have ek := items_pairs z2 e3
      subst ek
      refine ⟨.inr (.inr (.inl ⟨rfl, .inl ⟨_, z1⟩⟩)), b, _, rfl, rfl, z1, fun p3 hp => ?_⟩
      refine ⟨p3, b, qs, rfl, upd_same, by rw [upd_ne (ne_of_none z1 hp)]; exact z1, fun H' l ps g hl0 hz pm hs hl1 ht => ?_⟩
      have eq : ps.map (·.2) = srtP qs := srtP_uniq (pm.trans (srtP_perm qs).symm) (by simpa only [lexP_eq] using hs) (srtP_srt qs)
      have gr : ∀ b o, H1 b = some o → H' b = some o := fun b o q => g b o (by rw [upd_ne (ne_of_none q hp)]; exact q)
      have nl : H1 l = none := by
        by_cases el : l = p3
        · rw [el]; exact hp
        · rw [upd_ne el] at hl0; exact hl0
      refine q2 (.ref l) r1 H' ⟨⟨l, _, rfl, hl1, ?_, hh1.nin nl⟩, fun _ a e => by cases e; exact nl⟩ (hh1.grow gr) (Ext.grow gr)
      rw [← eq, List.map_map]
      have all : ∀ zs : List (Addr × Int × Int), (∀ z ∈ zs, H' z.1 = some (.tup [.int z.2.1, .int z.2.2])) → RepTs c r1 H' (zs.map ((fun p : Int × Int => T.tup [.int p.1, .int p.2]) ∘ fun z => z.2)) (zs.map fun z => V.ref z.1) := by
        intro zs
        induction zs with
        | nil => intro _; rfl
        | cons z zs ih =>
          intro hz
          have h0 := hz z (List.mem_cons_self ..)
          exact ⟨.ref z.1, _, rfl, ⟨z.1, _, rfl, ⟨.inl (.inl h0), fun _ => h0⟩, ⟨.int z.2.1, _, rfl, rfl, ⟨.int z.2.2, _, rfl, rfl, rfl⟩⟩⟩, ih fun y hy => hz y (List.mem_cons_of_mem _ hy)⟩
      exact all ps ht
/-- list(range(e)) -/
theorem ok_lrng (C : Cm c n N sc X) {a : Ex} {e : Expr} {p p2 pos pos2 : Pos} (m1 : glB sc "list" = true) (m2 : glB sc "range" = true) (ha : OkE c n X a e) : OkE c n X (.bix .list (.rng [a])) (.Call (.Name "list" p) [.Call (.Name "range" p2) [e] [] pos2] [] pos) := by
  obtain ⟨g1, g2⟩ := C.gl m1
  obtain ⟨g3, g4⟩ := C.gl m2
  have hm : X.mg "list" = none := by rw [C.emg]; exact C.tx.bl _ (by decide +kernel)
  have hm2 : X.mg "range" = none := by rw [C.emg]; exact C.tx.bl _ (by decide +kernel)
  refine okE_pe (PE.imp' (pe_listRg C.calm g1 hm (prg_1 g3 hm2 ha.pe (hd_star ha.hd _ _))) fun sv H Q ⟨s, h, r, SR, hh, o⟩ => ?_) rfl (fun _ => rfl)
  simp only [evE, evI, evL, bd_assoc, bd_ok] at o
  refine tEx_bd SR hh o fun v H1 d h1 r1 z fr hh1 ee SR1 o1 => ?_
  cases e1 : rngD [d] with
  | none => rw [e1] at o1; exact o1.elim
  | some xs =>
    rw [e1] at o1
    simp only [toR_some, bd_ok] at o1
    obtain ⟨d2, e2, q2⟩ := Out.some (o1.mv bk_D ee)
    simp only [bixD] at e2
    cases e2
    unfold rngD at e1
    split at e1
    · rename_i m em
      cases em
      split at e1
      · rename_i hz
        cases e1
        obtain rfl := z
        have hz := Bool.and_eq_true_iff.mp hz
        have z1 := of_decide_eq_true hz.1
        have z2 := of_decide_eq_true hz.2
        refine ⟨m, rfl, ⟨by omega, by omega, z2, by omega, by omega⟩, fun q hq => ?_⟩
        refine fin_tl q2 hh1 hq ?_
        have er : rgV 0 m = (List.range m.toNat).map fun (k : Nat) => V.int (0 + (k : Int)) := by unfold rgV; rw [Int.sub_zero]
        rw [er, rngT]
        have all : ∀ l : List Nat, RepTs c r1 H1 (l.map fun (k : Nat) => T.int (0 + (k : Int))) (l.map fun (k : Nat) => V.int (0 + (k : Int))) := by
          intro l
          induction l with
          | nil => rfl
          | cons k l ih => exact ⟨_, _, rfl, rfl, ih⟩
        exact all _
      · cases e1
    · rename_i em; cases em
    · cases e1
end
end Rm
set_option Elab.async false
set_option linter.all false
set_option autoImplicit false
set_option maxRecDepth 100000
set_option maxHeartbeats 1000000
/-! Soundness: list(zip(a, b)). -/
namespace Rm
open PySem PySem.Spec PyProof.Rows L2
theorem ne_lo {a b lo : Addr} (h1 : b ≤ lo) (h2 : lo < a) : a ≠ b := Nat.ne_of_gt (Nat.lt_of_le_of_lt h1 h2)
structure ZMade (P1 P2 : Nat → Value → Prop) (lo : Addr) (h : Heap) (as : List Addr) : Prop where
  rise : as.Pairwise (· < ·)
  above : ∀ a ∈ as, lo < a
  pairs : ∀ (j : Nat) (a : Addr), as[j]? = some a → ∃ x1 x2, P1 j x1 ∧ P2 j x2 ∧ IsTupOf2 h a x1 x2
theorem ZMade.there {P1 P2 : Nat → Value → Prop} {lo : Addr} {h : Heap} {as : List Addr} (g : ZMade P1 P2 lo h as) {a : Addr} (ha : a ∈ as) : a < h.objs.size := by
  obtain ⟨j, hj⟩ := List.mem_iff_getElem?.mp ha
  obtain ⟨_, _, _, _, e⟩ := g.pairs j a hj
  exact Heap.lt_size e
theorem ZMade.low {P1 P2 : Nat → Value → Prop} {lo lo' : Addr} {h : Heap} {as : List Addr} (g : ZMade P1 P2 lo h as) (hl : lo' ≤ lo) : ZMade P1 P2 lo' h as := ⟨g.rise, fun a ha => Nat.lt_of_le_of_lt hl (g.above a ha), g.pairs⟩
def ZSt (z TI TO i1 i2 : Addr) (St1 St2 : Nat → Heap → Prop) (i : Nat) (h : Heap) : Prop := (∃ v0 f, Vo v0 ∧ ZR h z TI TO v0 f) ∧ IsTupOf2 h TI (.ref i1) (.ref i2) ∧ (∃ x y, IsTupOf2 h TO x y) ∧ St1 i h ∧ St2 i h
section
variable {prog : Program} {w : World} {A : Around} {E : Value → Shared → Prop} {s : Shared} {z TI TO i1 i2 : Addr} {fp1 fp2 : List Addr} {n1 n2 : Nat} {P1 P2 : Nat → Value → Prop} {St1 St2 : Nat → Heap → Prop}
theorem ZSt.keep {i : Nat} {h h' : Heap} (D1 : Draws prog w A i1 fp1 n1 P1 St1) (D2 : Draws prog w A i2 fp2 n2 P2 St2) (x : ZSt z TI TO i1 i2 St1 St2 i h) (k : ∀ b o, b = z ∨ b = TI ∨ b = TO ∨ b ∈ fp1 ∨ b ∈ fp2 → h.get? b = some o → h'.get? b = some o) : ZSt z TI TO i1 i2 St1 St2 i h' := by
  obtain ⟨⟨v0, f, o, hz⟩, hTI, ⟨a, b, hTO⟩, s1, s2⟩ := x
  exact ⟨⟨v0, f, o, k z _ (by simp) hz⟩, k TI _ (by simp) hTI, ⟨a, b, k TO _ (by simp) hTO⟩, D1.frame _ _ _ s1 fun b hb o e => k b o (by simp [hb]) e, D2.frame _ _ _ s2 fun b hb o e => k b o (by simp [hb]) e⟩
/-- the loop of list(zip(..)) -/
theorem zl_loop {R : Result → Shared → Prop} {S lo : Addr} (Sp : ZipSep2 z TI TO i1 i2 fp1 fp2) (D1 : Draws prog w A.in1.in1 i1 fp1 n1 P1 St1) (D2 : Draws prog w A.in1.in1 i2 fp2 n2 P2 St2) (hS1 : S ∉ fp1) (hS2 : S ∉ fp2) (hSz : S ≠ z) (hSI : S ≠ TI) (hSO : S ≠ TO) (hlo : ∀ b, b = z ∨ b = TO ∨ b = i1 ∨ b = i2 ∨ b = S → b ≤ lo) (hn : n1 ≤ sizeLine) (res : Value) {h₁ : Heap}
    (hR : ∀ h' tk acc c as, (∀ b o, b ≠ S → b ≠ z → b ≠ TO → b ≠ i1 → b ≠ i2 → h₁.get? b = some o → h'.get? b = some o) → h'.get? S = some { cls := .type "list", dict := none, data := .seq acc c, slots := #[] } → as.length = min n1 n2 → ZMade P1 P2 lo h' as →
      acc.toList = as.map Value.ref → R (.ok (.ret res)) { s with heap := h', toks := tk }) :
    ∀ (k i : Nat) (h : Heap) (tk c : Nat) (acc : Array Value) (as : List Addr), min n1 n2 - i = k → i ≤ min n1 n2 → ZSt z TI TO i1 i2 St1 St2 i h → (∀ b o, b ≠ S → b ≠ z → b ≠ TO → b ≠ i1 → b ≠ i2 → h₁.get? b = some o → h.get? b = some o) →
      h.get? S = some { cls := .type "list", dict := none, data := .seq acc c, slots := #[] } → acc.toList = as.map Value.ref → as.length = i → ZMade P1 P2 lo h as → lo < h.objs.size →
      codeAny (model prog w) A (.builtin "list.extend.loop" ⟨[.ref S, .ref z, res], []⟩) R { s with heap := h, toks := tk } := by
  have i1S : i1 ≠ S := fun e => hS1 (e ▸ Sp.mem1)
  have i2S : i2 ≠ S := fun e => hS2 (e ▸ Sp.mem2)
  intro k
  induction k with
  | zero =>
    intro i h tk c acc as hk hi hst hkeep hS hacc hal hG hIs
    have hin : i = min n1 n2 := by omega
    refine codeAny_builtin PySem.F.entry_extend_loop ?_
    rw [Around.under_plainId PySem.F.plain_extend_loop _]
    show wpAny _ A.in1 (pyNext (.ref z) >>= _) _ _ _
    obtain ⟨⟨v0, f, o, hz⟩, hTI, ⟨x, y, hTO⟩, s1, s2⟩ := hst
    refine wpAny_bind (zpy_end (s := { s with heap := h, toks := tk }) Sp D1 D2 hz o hTI hTO s1 s2 (by omega) (by omega) (by omega) fun h' tk' he => ?_)
    refine wpAny_pure (hR h' tk' acc c as (fun b o h1 h2 h3 h4 h5 e => he b o h2 h3 h4 h5 (hkeep b o h1 h2 h3 h4 h5 e)) (he S _ hSz hSO (Ne.symm i1S) (Ne.symm i2S) hS) (by omega) ⟨hG.rise, hG.above, fun j a hj => ?_⟩ hacc)
    obtain ⟨x1, x2, e1, e2, e3⟩ := hG.pairs j a hj
    have ab := hG.above a (List.mem_of_getElem? hj)
    exact ⟨x1, x2, e1, e2, he a _ (ne_lo (hlo z (by simp)) ab) (ne_lo (hlo TO (by simp)) ab) (ne_lo (hlo i1 (by simp)) ab) (ne_lo (hlo i2 (by simp)) ab) e3⟩
  | succ k ih =>
    intro i h tk c acc as hk hi hst hkeep hS hacc hal hG hIs
    have hlt : i < min n1 n2 := by omega
    have hsz : acc.size = i := by rw [← Array.length_toList, hacc, List.length_map, hal]
    refine codeAny_builtin PySem.F.entry_extend_loop ?_
    rw [Around.under_plainId PySem.F.plain_extend_loop _]
    show wpAny _ A.in1 (pyNext (.ref z) >>= _) _ _ _
    obtain ⟨⟨v0, f, o, hz⟩, hTI, ⟨x, y, hTO⟩, s1, s2⟩ := hst
    refine wpAny_bind (zpy_item (s := { s with heap := h, toks := tk }) Sp D1 D2 hz o hTI hTO s1 s2 (by omega) (by omega) fun x1 x2 h' tk' u f' p1 p2 o' z' TO' st1 st2 hT hz2 hkp => ?_)
    dsimp only at hT hz2 hkp ⊢
    have hS' := hkp S _ hSz hSO (Ne.symm i1S) (Ne.symm i2S) hS
    have up : ∀ b o, b ≠ S → h'.get? b = some o → (h'.update S (Obj.mapSeq (·.push (Value.ref h.objs.size)))).get? b = some o := fun b o hb e => (Heap.get?_update_other _ _ (Ne.symm hb)).trans e
    have hSl : S < h.objs.size := Heap.lt_size hS
    have hst' : ZSt z TI TO i1 i2 St1 St2 (i + 1) h' := ⟨⟨u, f', o', z'⟩, hkp TI _ Sp.TIz Sp.TITO Sp.TIi1 Sp.TIi2 hTI, TO', st1, st2⟩
    show wpAny _ A.in1 (updateSeq S (·.push (Value.ref h.objs.size)) >>= _) _ _ _
    refine wpAny_bind ?_
    refine wpAny_updateSeq hS' rfl (wpAny_pure ⟨plainId_quiet PySem.F.plain_extend_loop _, ih (i + 1) _ tk' _ (acc.push (Value.ref h.objs.size)) (as ++ [h.objs.size]) (by omega) hlt (hst'.keep D1 D2 fun b o hb e => up b o (by rcases hb with rfl | rfl | rfl | hb | hb; exact Ne.symm hSz; exact Ne.symm hSI; exact Ne.symm hSO; exact fun q => hS1 (q ▸ hb); exact fun q => hS2 (q ▸ hb)) e)
      (fun b o h1 h2 h3 h4 h5 e => up b o h1 (hkp b o h2 h3 h4 h5 (hkeep b o h1 h2 h3 h4 h5 e))) (Heap.get?_update_self _ hS' rfl) (by rw [Array.toList_push, hacc, List.map_append]; rfl) (by rw [List.length_append, hal]; rfl) ⟨?_, ?_, ?_⟩ ?_⟩) (by rw [hsz]; omega) (by show (acc.push (Value.ref h.objs.size)).size ≤ sizeLine + 1; rw [Array.size_push, hsz]; omega)
    · refine List.pairwise_append.mpr ⟨hG.rise, List.pairwise_singleton _ _, fun a ha b hb => ?_⟩
      rw [List.mem_singleton.mp hb]
      exact hG.there ha
    · intro a ha
      rcases List.mem_append.mp ha with ha | ha
      · exact hG.above a ha
      · rw [List.mem_singleton.mp ha]; exact hIs
    · intro j b hj
      rcases Nat.lt_trichotomy j as.length with h1 | h1 | h1
      · rw [List.getElem?_append_left h1] at hj
        obtain ⟨y1, y2, e1, e2, e3⟩ := hG.pairs j b hj
        have ab := hG.above b (List.mem_of_getElem? hj)
        exact ⟨y1, y2, e1, e2, up b _ (ne_lo (hlo S (by simp)) ab) (hkp b _ (ne_lo (hlo z (by simp)) ab) (ne_lo (hlo TO (by simp)) ab) (ne_lo (hlo i1 (by simp)) ab) (ne_lo (hlo i2 (by simp)) ab) e3)⟩
      · subst h1
        have hb : h.objs.size = b := by simpa using hj
        subst hb
        refine ⟨x1, x2, ?_, ?_, up _ _ (Nat.ne_of_gt hSl) hT⟩
        · rw [hal]; exact p1
        · rw [hal]; exact p2
      · have hnone : (as ++ [h.objs.size])[j]? = none := List.getElem?_eq_none (by rw [List.length_append, List.length_singleton]; omega)
        rw [hnone] at hj; cases hj
    · have e : (h'.update S (Obj.mapSeq (·.push (Value.ref h.objs.size)))).get? h.objs.size = _ := up _ _ (Nat.ne_of_gt hSl) hT
      exact Nat.lt_trans hIs (Heap.lt_size e)
theorem zip_no_len : typeLookup (.type "zip") "__len__" = pure none := by rw [typeLookup_type, builtinLookup_eq_fast]; kernel_rfl
theorem zip_no_hint : typeLookup (.type "zip") "__length_hint__" = pure none := by rw [typeLookup_type, builtinLookup_eq_fast]; kernel_rfl
theorem zl_hint {r : Addr} (hT : s.TypeIs (.ref r) "zip") {Q : Bool → Shared → Prop} (h : ∀ b, Q b s) : wpAny (model prog w) A (Builtin.List.listLengthHint (.ref r)) Q E s := by
  unfold Builtin.List.listLengthHint
  refine wpAny_bind (wpAny_specialOf hT zip_no_len ?_)
  show wpAny _ A (specialOf (Value.ref r) (Str.ofString "__length_hint__") >>= _) _ _ _
  refine wpAny_bind (wpAny_specialOf hT zip_no_hint ?_)
  exact wpAny_pure (h _)
theorem zl_extend {R : Result → Shared → Prop} {S : Addr} (Sp : ZipSep2 z TI TO i1 i2 fp1 fp2) (D1 : Draws prog w A.in1.in1 i1 fp1 n1 P1 St1) (D2 : Draws prog w A.in1.in1 i2 fp2 n2 P2 St2) (hS1 : S ∉ fp1) (hS2 : S ∉ fp2) (hSz : S ≠ z) (hSI : S ≠ TI) (hSO : S ≠ TO) (hn : n1 ≤ sizeLine) (res : Value) (c₀ : Nat)
    (hst : ZSt z TI TO i1 i2 St1 St2 0 s.heap) (hS : s.heap.get? S = some { cls := .type "list", data := .seq #[] c₀ }) (hlt : ∀ b, b = z ∨ b = TO ∨ b = i1 ∨ b = i2 ∨ b = S → b < s.heap.objs.size)
    (hR : ∀ h' tk acc c as, (∀ b o, b ≠ S → b ≠ z → b ≠ TO → b ≠ i1 → b ≠ i2 → s.heap.get? b = some o → h'.get? b = some o) → h'.get? S = some { cls := .type "list", dict := none, data := .seq acc c, slots := #[] } → as.length = min n1 n2 → ZMade P1 P2 (s.heap.objs.size - 1) h' as →
      acc.toList = as.map Value.ref → R (.ok (.ret res)) { s with heap := h', toks := tk }) :
    wpAny (model prog w) A.in1 (Builtin.List.listExtendWith (.ref S) (.ref z) res)
      (fun fin s' => match fin with | .done f => R (.ok f) s' | .again c' => c'.quiet = true ∧ codeAny (model prog w) A c' R s') (fun e s' => R (.error e) s') s := by
  obtain ⟨v0, f, o, hz⟩ := hst.1
  have ty : s.TypeIs (.ref z) "zip" := ⟨_, hz, rfl⟩
  have key : ∀ (h : Heap) (c₁ tk : Nat), (∀ b o, b ≠ S → s.heap.get? b = some o → h.get? b = some o) → h.get? S = some { cls := .type "list", data := .seq #[] c₁ } → s.heap.objs.size ≤ h.objs.size →
      codeAny (model prog w) A (.builtin "list.extend.loop" ⟨[.ref S, .ref z, res], []⟩) R { s with heap := h, toks := tk } := by
    intro h c₁ tk hk hS₁ hsz
    have l0 : 0 < s.heap.objs.size := Nat.lt_of_le_of_lt (Nat.zero_le _) (hlt z (by simp))
    refine zl_loop (s := s) (h₁ := s.heap) (lo := s.heap.objs.size - 1) Sp D1 D2 hS1 hS2 hSz hSI hSO (fun b hb => Nat.le_sub_one_of_lt (hlt b hb)) hn res (fun h' tk' acc c as hk' hS' hl hG hacc => hR h' tk' acc c as hk' hS' hl hG hacc)
      (min n1 n2) 0 h tk c₁ #[] [] (Nat.sub_zero _) (Nat.zero_le _) (hst.keep D1 D2 fun b o hb e => hk b o (by rcases hb with rfl | rfl | rfl | hb | hb; exact Ne.symm hSz; exact Ne.symm hSI; exact Ne.symm hSO; exact fun q => hS1 (q ▸ hb); exact fun q => hS2 (q ▸ hb)) e) (fun b o hb _ _ _ _ e => hk b o hb e) hS₁ rfl rfl
      ⟨List.Pairwise.nil, (fun _ ha => nomatch ha), (fun j a hj => by simp at hj)⟩ (Nat.lt_of_lt_of_le (Nat.sub_one_lt_of_lt l0) hsz)
  unfold Builtin.List.listExtendWith
  refine wpAny_bind (wpAny_typeOf (T := "zip") ty ?_)
  have h1 : Builtin.List.listSameRef (.ref S) (.ref z) = false := by simp [Builtin.List.listSameRef, hSz]
  have h2 : (Value.type "zip" == Value.type "list") = false := by decide
  have h3 : (Value.type "zip" == Value.type "tuple") = false := by decide
  simp only [h1, h2, h3, Bool.or_false, Bool.false_eq_true, if_false]
  refine wpAny_bind (zpy_iter hz ?_)
  refine wpAny_bind (wpAny_holding (zl_hint ty fun b => ?_))
  refine wpAny_ite_split (fun _ => ?_) (fun _ => wpAny_pure ⟨plainId_quiet PySem.F.plain_extend_loop _, key _ c₀ _ (fun b o _ e => e) hS (Nat.le_refl _)⟩)
  refine wpAny_bind (wpAny_rule ?_)
  refine wpAny_bind ?_
  show wpAny _ _ (updateSeq S (·.push .none) >>= fun _ => updateSeq S (·.pop)) _ _ _
  refine wpAny_bind (wpAny_updateSeq hS rfl ?_)
  have hS₂ := Heap.get?_update_self (Obj.mapSeq (·.push Value.none)) hS rfl
  refine wpAny_updateSeq (hz := by seq_fits) hS₂ rfl ?_
  have hS₃ := Heap.get?_update_self (Obj.mapSeq (·.pop)) hS₂ rfl
  refine wpAny_pure ⟨plainId_quiet PySem.F.plain_extend_loop _, key _ _ _ (fun b o hb e => ?_) hS₃ (by rw [Heap.size_update, Heap.size_update]; exact Nat.le_refl _)⟩
  exact (Heap.get?_update_other _ _ (Ne.symm hb)).trans ((Heap.get?_update_other _ _ (Ne.symm hb)).trans e)
/-- list(z), z a zip as it is made -/
theorem zl_call {Q : Value → Shared → Prop} (Sp : ZipSep2 z TI TO i1 i2 fp1 fp2) (D1 : Draws prog w A.in1.in1.in1 i1 fp1 n1 P1 St1) (D2 : Draws prog w A.in1.in1.in1 i2 fp2 n2 P2 St2) (hn : n1 ≤ sizeLine) (hst : ZSt z TI TO i1 i2 St1 St2 0 s.heap)
    (hlt : ∀ b, b = z ∨ b = TI ∨ b = TO ∨ b ∈ fp1 ∨ b ∈ fp2 → b < s.heap.objs.size)
    (hQ : ∀ h' tk acc c as, (∀ b o, b ≠ z → b ≠ TO → b ≠ i1 → b ≠ i2 → s.heap.get? b = some o → h'.get? b = some o) → h'.get? s.heap.objs.size = some { cls := .type "list", dict := none, data := .seq acc c, slots := #[] } → as.length = min n1 n2 → ZMade P1 P2 s.heap.objs.size h' as →
      acc.toList = as.map Value.ref → Q (.ref s.heap.objs.size) { s with heap := h', toks := tk }) :
    wpAny (model prog w) A (call (.type "list") [.ref z]) Q E s := by
  refine callType_codes (Q₁ := fun obj s₁ => obj = .ref s.heap.objs.size ∧ s₁ = { s with heap := s.heap.push { cls := .type "list", data := .seq #[] } }) PySem.F.called_list (PySem.F.typeCall_list_1 _) PySem.F.entry_list_init
    (code_list_new _ ⟨rfl, rfl⟩) fun obj s₁ h₁ => ?_
  obtain ⟨rfl, rfl⟩ := h₁
  have hS : (s.heap.push { cls := .type "list", data := .seq #[] }).get? s.heap.objs.size = some { cls := .type "list", data := .seq #[] } := Heap.get?_push_size _ rfl
  have neS : ∀ b, b = z ∨ b = TI ∨ b = TO ∨ b ∈ fp1 ∨ b ∈ fp2 → s.heap.objs.size ≠ b := fun b hb => Nat.ne_of_gt (hlt b hb)
  refine ⟨⟨_, hS, rfl⟩, PySem.F.args_list_init_2 _ _, ?_⟩
  generalize hS0 : s.heap.objs.size = S at hS hQ neS ⊢
  show wpAny _ _ (do let old ← Builtin.List.listItems (.ref S); Builtin.List.listUpdate (.ref S) (fun _ => #[]); letGo old.toList.reverse; Builtin.List.listExtendWith (.ref S) (.ref z) .none) _ _ _
  refine wpAny_bind ?_
  unfold Builtin.List.listItems
  refine wpAny_bind (wpAny_seqItems hS rfl (wpAny_pure ?_))
  show wpAny _ _ (updateSeq S (fun _ => #[]) >>= fun _ => letGo (#[] : Array Value).toList.reverse >>= fun _ => Builtin.List.listExtendWith (.ref S) (.ref z) .none) _ _ _
  refine wpAny_bind (wpAny_updateSeq hS rfl ?_)
  have hS₂ := Heap.get?_update_self (Obj.mapSeq (fun _ => (#[] : Array Value))) hS rfl
  have oth : ∀ b o, b ≠ S → s.heap.get? b = some o → ((s.heap.push { cls := .type "list", data := .seq #[] }).update S (Obj.mapSeq (fun _ => (#[] : Array Value)))).get? b = some o :=
    fun b o hb e => (Heap.get?_update_other _ _ (Ne.symm hb)).trans (Heap.get?_push_of_some _ e)
  have sz : ((s.heap.push { cls := .type "list", data := .seq #[] }).update S (Obj.mapSeq (fun _ => (#[] : Array Value)))).objs.size = S + 1 := by rw [Heap.size_update, Heap.size_push, hS0]
  refine wpAny_bind (wpAny_letGo ?_)
  refine zl_extend (A := A.in1) (s := { s with heap := (s.heap.push { cls := .type "list", data := .seq #[] }).update S (Obj.mapSeq (fun _ => (#[] : Array Value))) }) Sp D1 D2 (fun hm => neS S (by simp [hm]) rfl) (fun hm => neS S (by simp [hm]) rfl) (neS z (by simp)) (neS TI (by simp)) (neS TO (by simp)) hn .none _
    (hst.keep D1 D2 fun b o hb e => oth b o (Ne.symm (neS b hb)) e) hS₂ (fun b hb => ?_) (fun h' tk acc c as hk hS' hl hG hacc => ?_)
  · rw [sz]
    rcases hb with rfl | rfl | rfl | rfl | rfl
    · exact Nat.lt_succ_of_lt (hS0 ▸ hlt _ (by simp))
    · exact Nat.lt_succ_of_lt (hS0 ▸ hlt _ (by simp))
    · exact Nat.lt_succ_of_lt (hS0 ▸ hlt _ (by simp [Sp.mem1]))
    · exact Nat.lt_succ_of_lt (hS0 ▸ hlt _ (by simp [Sp.mem2]))
    · exact Nat.lt_succ_self _
  · refine ⟨rfl, hQ h' tk acc c as (fun b o h1 h2 h3 h4 e => hk b o (fun q => ?_) h1 h2 h3 h4 (oth b o (fun q => ?_) e)) hS' hl ?_ hacc⟩
    · subst q; exact absurd (Heap.lt_size e) (by rw [hS0]; exact Nat.lt_irrefl _)
    · subst q; exact absurd (Heap.lt_size e) (by rw [hS0]; exact Nat.lt_irrefl _)
    · have e : ({ s with heap := (s.heap.push { cls := .type "list", data := .seq #[] }).update S (Obj.mapSeq (fun _ => (#[] : Array Value))) } : Shared).heap.objs.size - 1 = S := by
        show ((s.heap.push { cls := .type "list", data := .seq #[] }).update S (Obj.mapSeq (fun _ => (#[] : Array Value)))).objs.size - 1 = S
        rw [sz]; rfl
      rw [e] at hG
      exact hG
end
section
variable {X : Cx} {pins : List (Addr × Obj)} {σ : L2.St} {H : Hp} {s : Shared} {sk : Sk} {xs ys : List V} {it : Addr} {i : Nat}
theorem Sk.drawsA {A : Around} (I : Inv X pins σ H s) (hc : A.handled = none) (h : sk.has X.K H xs) (st : sk.at s.heap it i) (hne : it ∉ sk.cells) :
    ∃ (P : Nat → Value → Prop) (St : Nat → Heap → Prop), Draws X.prog X.w A it (it :: sk.cells) xs.length P St ∧ St i s.heap ∧ (∀ j u, P j u → ∃ x, xs[j]? = some x ∧ RelV x u) ∧ ∀ j h, St j h → sk.at h it j := by
  cases sk with
  | l a =>
    obtain ⟨its, rv, p, hz⟩ := I.list h
    have hl := rv.length
    have D := Draws.list (prog := X.prog) (w := X.w) hc it a (by simp [Sk.cells] at hne; exact fun e => hne e.symm) its.toArray
    have el : xs.length = its.toArray.size := by simpa using hl
    refine ⟨fun i v => its.toArray[i]? = some v, fun i h => h.IsListIter it a i ∧ h.IsList a its.toArray, el ▸ D, ⟨st, p.isList⟩, fun j u hu => ?_, fun j h z => z.1⟩
    have hu' : its[j]? = some u := by simpa using hu
    have hj : j < xs.length := by rw [hl]; exact (List.getElem?_eq_some_iff.mp hu').1
    obtain ⟨u2, e2, r2⟩ := rv.get (List.getElem?_eq_getElem hj)
    rw [hu'] at e2
    cases e2
    exact ⟨_, List.getElem?_eq_getElem hj, r2⟩
  | t a =>
    obtain ⟨its, rv, p, hz⟩ := I.tuple h
    have hl := rv.length
    have D := Draws.tuple (prog := X.prog) (w := X.w) hc it a (by simp [Sk.cells] at hne; exact fun e => hne e.symm) its.toArray
    have el : xs.length = its.toArray.size := by simpa using hl
    refine ⟨fun i v => its.toArray[i]? = some v, fun i h => h.IsTupleIter it a i ∧ h.IsTuple a its.toArray, el ▸ D, ⟨st, p⟩, fun j u hu => ?_, fun j h z => z.1⟩
    have hu' : its[j]? = some u := by simpa using hu
    have hj : j < xs.length := by rw [hl]; exact (List.getElem?_eq_some_iff.mp hu').1
    obtain ⟨u2, e2, r2⟩ := rv.get (List.getElem?_eq_getElem hj)
    rw [hu'] at e2
    cases e2
    exact ⟨_, List.getElem?_eq_getElem hj, r2⟩
  | s x =>
    obtain ⟨rfl, hz⟩ := h
    obtain ⟨t, st⟩ := st
    have D := Draws.text (prog := X.prog) (w := X.w) hc it x t
    have el : (x.cps.toList.map (fun c => V.str ⟨#[c]⟩)).length = x.cps.size := by simp
    refine ⟨fun i v => ∃ c u, x.cps[i]? = some c ∧ v = .str ⟨#[c]⟩ u, fun i h => h.IsStrIter it (strIterType x) x t i, el ▸ D, st, fun j u hu => ?_, fun j h z => ⟨t, z⟩⟩
    obtain ⟨c, k, e, rfl⟩ := hu
    refine ⟨.str ⟨#[c]⟩, ?_, k, rfl⟩
    rw [List.getElem?_map]
    have : x.cps.toList[j]? = some c := by simpa using e
    rw [this]; rfl
end
def tListZip (K : PySem.W.Frag) (ta : TA) : TE := fun σ H Q => ta σ H fun vs H1 => ∃ sa sb xs ys, vs = [Sk.v sa, Sk.v sb] ∧ sa.has K H1 xs ∧ sb.has K H1 ys ∧
  ∀ (H' : Hp) (l : Addr) (ts : List Addr), (∀ b o, H1 b = some o → H' b = some o) → H1 l = none → H' l = some (.lst (ts.map V.ref)) → ts.length = min xs.length ys.length →
    (∀ (j : Nat) (t : Addr), ts[j]? = some t → ∃ x y, xs[j]? = some x ∧ ys[j]? = some y ∧ H' t = some (.tup [x, y])) → Q (.ref l) H'
theorem pe_listZip {X : Cx} {e e2 : Expr} {ta : TA} {p p2 pos pos2 : Pos} (hc : X.calm = true) (hgl : Gl X "list") (hml : X.mg "list" = none) (hg : Gl X "zip") (hm : X.mg "zip" = none) (ha : PA X [e, e2] ta)
    (hs : starEach [e, e2] X.env = (false, eval e X.env) :: starEach [e2] X.env) (hpl : (backTo pos2 (starEach [e2] X.env)).any (·.1) = false) :
    PE X (.Call (.Name "list" p) [.Call (.Name "zip" p2) [e, e2] [] pos2] [] pos) (tListZip X.K ta) := by
  refine ⟨fun pins s σ H Q I h => ?_⟩
  refine Call_ (ld_blt I hgl hml boot_list (PyProof.Rows.callWith_type1 (args_cons ?_ rfl) rfl))
  refine Call_ (ld_blt I hg hm PyProof.Rows.boot_zip (PyProof.Rows.callWith_type1 (thn (ha.run pos2 pins s σ H _ I h) fun us s1 ⟨vs, H1, I1, r1, q1⟩ => ?_) hs hpl))
  obtain ⟨sa, sb, xs, ys, ex, hqx, hqy, q⟩ := q1
  subst ex
  cases r1 with
  | cons r rr =>
    cases rr with
    | cons r' rr =>
      cases rr
      obtain ⟨o1, Hh1, B1, h1, at1, cl1⟩ := Sk.begins I1 hqx r
      obtain ⟨o2, Hh2, B2, h2, at2, cl2⟩ := Sk.begins I1 hqy r'
      refine zip_begins2 B1 B2 h1 h2 fun h' hz hTI hTO g1 g2 hsz hk => args_nil ?_
      have I2 : Inv X pins σ H1 { s1 with heap := h' } := I1.kept (t' := s1.toks) hk
      have hh : X.A.in1.in1.in1.handled = none := I2.ok.hd hc
      have n1 : s1.heap.objs.size ∉ sa.cells := fun z => absurd (cl1 _ z) (Nat.lt_irrefl _)
      have n2 : s1.heap.objs.size + 1 ∉ sb.cells := fun z => absurd (cl2 _ z) (by show ¬ (s1.heap.objs.size + 1 < s1.heap.objs.size); omega)
      obtain ⟨P1, St1, D1, st1, hP1, hS1⟩ := Sk.drawsA (A := X.A.in1.in1.in1) I2 hh hqx (at1 _ _ g1) n1
      obtain ⟨P2, St2, D2, st2, hP2, hS2⟩ := Sk.drawsA (A := X.A.in1.in1.in1) I2 hh hqy (at2 _ _ g2) n2
      have hle : ∀ c, c = s1.heap.objs.size + 4 ∨ c = s1.heap.objs.size + 2 ∨ c = s1.heap.objs.size + 3 ∨ c = s1.heap.objs.size ∨ c = s1.heap.objs.size + 1 → s1.heap.objs.size ≤ c := by
        intro c e'
        rcases e' with z | z | z | z | z <;> rw [z]
        · exact Nat.le_add_right _ _
        · exact Nat.le_add_right _ _
        · exact Nat.le_add_right _ _
        · exact Nat.le_refl _
        · exact Nat.le_add_right _ _
      refine zl_call (s := { s1 with heap := h' }) (zip_sep2 cl1 cl2) D1 D2 (Sk.size I1 hqx) ⟨⟨.none, false, .inl rfl, hz⟩, hTI, ⟨_, _, hTO⟩, st1, st2⟩ (fun b hb => ?_) fun h3 tk acc c as hk3 hS hl hG hacc => ?_
      · show b < h'.objs.size
        rw [hsz]
        rcases hb with rfl | rfl | rfl | hb | hb
        · exact Nat.add_lt_add_left (by decide) _
        · exact Nat.add_lt_add_left (by decide) _
        · exact Nat.add_lt_add_left (by decide) _
        · rcases List.mem_cons.mp hb with rfl | hb
          · exact Nat.lt_add_of_pos_right (by decide)
          · exact Nat.lt_of_lt_of_le (cl1 _ hb) (Nat.le_add_right _ _)
        · rcases List.mem_cons.mp hb with rfl | hb
          · exact Nat.add_lt_add_left (by decide) _
          · exact Nat.lt_of_lt_of_le (cl2 _ hb) (Nat.le_add_right _ _)
      · dsimp only at hk3 hS hG ⊢
        have kS : ∀ b o, s1.heap.get? b = some o → h3.get? b = some o := fun b o e => by
          have lb := Heap.lt_size e
          exact hk3 b o (Nat.ne_of_lt (Nat.lt_of_lt_of_le lb (hle _ (by simp)))) (Nat.ne_of_lt (Nat.lt_of_lt_of_le lb (hle _ (by simp)))) (Nat.ne_of_lt (Nat.lt_of_lt_of_le lb (hle _ (by simp)))) (Nat.ne_of_lt (Nat.lt_of_lt_of_le lb (hle _ (by simp)))) (hk b o e)
        have I3 : Inv X pins σ H1 { s1 with heap := h3, toks := tk } := I1.kept (t' := tk) kS
        have sle : s1.heap.objs.size ≤ h'.objs.size := by rw [hsz]; exact Nat.le_add_right _ _
        have hn0 : H1 h'.objs.size = none := I1.hok.fresh sle
        have nd : as.Nodup := List.Pairwise.imp (fun h => Nat.ne_of_lt h) hG.rise
        have lx := Sk.size I1 hqx
        have hlen : (as.map V.ref).length ≤ sizeLine := by rw [List.length_map, hl]; omega
        have rv : Vals (as.map V.ref) acc.toList := by rw [hacc]; exact LiI.vals_refs as
        have I4 : Inv X pins σ (upd H1 h'.objs.size (.lst (as.map V.ref))) { s1 with heap := h3, toks := tk } :=
          I3.take (h' := h3) (t' := tk) (fun b ob _ e => e) (I1.fpOk sle hn0) ⟨hlen, acc.toList, c, rv, by rw [Array.toArray_toList]; exact hS⟩
        obtain ⟨H2, I5, g, qt⟩ := L2.DX.takeT (P := fun b vs => ∃ (j : Nat) (x y : V), as[j]? = some b ∧ xs[j]? = some x ∧ ys[j]? = some y ∧ vs = [x, y]) I1 as _ I4 nd fun b hb => by
          obtain ⟨j, hj⟩ := List.mem_iff_getElem?.mp hb
          obtain ⟨x1, x2, p1, p2, hT⟩ := hG.pairs j b hj
          obtain ⟨x, ex, rx⟩ := hP1 j x1 p1
          obtain ⟨y, ey, ry⟩ := hP2 j x2 p2
          have ab := hG.above b hb
          have hbl : s1.heap.objs.size ≤ b := Nat.le_of_lt (Nat.lt_of_le_of_lt sle ab)
          refine ⟨hbl, ?_, [x, y], ⟨j, x, y, hj, ex, ey, rfl⟩, fun H3 => ⟨(by rw [sizeLine_eq]; show 2 ≤ 16777216; omega), [x1, x2], .cons rx (.cons ry .nil), ⟨_, hT, rfl, _, rfl⟩⟩⟩
          rw [upd_ne (Nat.ne_of_gt ab)]
          exact I1.hok.fresh hbl
        have gr : ∀ b o, H1 b = some o → H2 b = some o := fun b o e => g b o (by rw [upd_ne (ne_of_none e hn0)]; exact e)
        refine ⟨.ref h'.objs.size, H2, I5, rfl, q H2 h'.objs.size as gr hn0 (g _ _ upd_same) hl fun j t hj => ?_⟩
        obtain ⟨vs, ⟨j', x, y, j1, ex, ey, rfl⟩, hH⟩ := qt t (List.mem_of_getElem? hj)
        have eij : j = j' := (List.getElem?_inj (List.getElem?_eq_some_iff.mp hj).1 nd).mp (hj.trans j1.symm)
        subst eij
        exact ⟨x, y, ex, ey, hH⟩
end Rm
set_option Elab.async false
set_option linter.all false
set_option autoImplicit false
set_option maxRecDepth 100000
set_option maxHeartbeats 1000000
/-! Soundness: list(zip(a, b)), list(d.items()), list(d.values()), s.index(t). -/
namespace Rm
open PySem PySem.Spec PyProof.Rows L2
def tListVals (te : TE) : TE := fun σ H Q => te σ H fun x H1 => ∃ (d : Addr) (kvs : List (Key × V)), x = .ref d ∧ H1 d = some (.dK kvs) ∧ ∀ p, H1 p = none → Q (.ref p) (upd H1 p (.lst (kvs.map (·.2))))
section
variable {X : Cx} {e : Expr} {te : TE} {p apos cpos pos : Pos}
theorem pe_listValues (hc : X.calm = true) (he : PE X e te) (hg : Gl X "list") (hm : X.mg "list" = none) (hv : bootBuiltins "list" = some (.type "list")) (hbase : attributeBase e "values" X.env (eval e X.env) = eval e X.env) (hline : (apos.endLine == cpos.line) = true) :
    PE X (.Call (.Name "list" p) [.Call (.Attribute e "values" apos) [] [] cpos] [] pos) (tListVals te) := by
  have hs : starEach [.Call (.Attribute e "values" apos) [] [] cpos] X.env = (false, eval (.Call (.Attribute e "values" apos) [] [] cpos) X.env) :: starEach [] X.env := rfl
  refine ⟨fun pins s σ H Q I hq => ?_⟩
  refine wpAny_Call_Name_kw (ld_blt I hg hm hv ?_)
  refine PyProof.Rows.callWith_type1 ?_ hs rfl
  rw [hs]
  show wpAny _ _ (spliced ((false, eval (.Call (.Attribute e "values" apos) [] [] cpos) X.env) :: backTo pos (starEach [] X.env))) _ _ s
  refine Calls.spliced_cons ?_
  refine wpAny_Call_method (T := "dict") (id := "dict.values") hbase rfl hline F.plainAttrs_dict F.slot_dict_values F.type_dict_values (thn (he.run pins s σ H _ I hq) fun u s1 ⟨x, H1, I1, rx, d, kvs, ex, hd, q⟩ => ?_)
  subst ex
  obtain rfl : u = Value.ref d := rx
  obtain ⟨hz, hs0, vs, kv, hdo⟩ := I1.hok d _ hd
  obtain ⟨ep, hat⟩ := hdo.dictAt
  have lk : kvs.length = vs.length := Paired.length kv
  have I2 : Inv X pins σ H1 { s1 with heap := s1.heap.push { cls := .type "dict_values", data := .fields #[.ref d] } } := I1.kept (t' := s1.toks) fun b ob q => Heap.get?_push_of_some _ q
  refine ⟨hdo.typeIs, hdo.mapOf.noDict, ?_⟩
  show wpAny _ _ (callWith cpos (.builtin "dict.values") [.ref d] [] []) _ X.xe s1
  refine method_meetsIn F.slot_dict_values F.entry_dict_values rfl (PySem.evalArgs_none ⟨rfl, hdo.typeIs, F.args_dict_values_1 _, _, meets_dict_values (mixKind X.prog X.w) d hs0, ⟨vs, hdo⟩, ?_⟩)
  refine Calls.spliced_nil ?_
  refine PySem.W.kdl_call (PySem.W.kdl_values (knd := mixKind X.prog X.w) (kvs := vs) (ep := ep)) (I1.ok.hd hc) ⟨⟨_, Heap.get?_push_size _ rfl, rfl, rfl⟩, hat.push _⟩ (by omega) fun h' tk acc' c' hkeep hS hacc => ?_
  refine ⟨.ref _, upd H1 _ (.lst (kvs.map (·.2))), I2.laid hkeep (Nat.le_refl _) (show ObjOk X.prog X.w _ _ _ (.lst (kvs.map (·.2))) from ⟨?_, acc'.toList, c', ?_, ?_⟩), rfl, q _ (I2.hok.fresh (Nat.le_refl _))⟩
  · rw [List.length_map]; exact hz
  · have el : acc'.toList.length = acc'.size := by simp
    refine vals_of_at (by rw [List.length_map, el, hacc.1, lk]) fun j x w h1 h2 => ?_
    obtain ⟨k, hky⟩ := hacc.2 j w (by rw [← Array.getElem?_toList]; exact h2)
    rw [List.getElem?_map] at h1
    cases ek : kvs[j]? with
    | none => rw [ek] at h1; cases h1
    | some pk =>
      rw [ek] at h1
      cases h1
      obtain ⟨y, hy, _, hr⟩ := LiI.paired_get kv ek
      rw [hky] at hy
      cases hy
      exact hr
  · rw [Array.toArray_toList]; exact hS
end
section
variable {c : Tx} {n : Nat} {X : Cx} {N : List Str} {sc : Scope}
theorem rep_items {r : List Addr} {H : Hp} : ∀ {kvs : List (T × T)} {kv : List (Key × V)} {ts : List Addr}, RepK c r H kvs kv → Paired (fun (t : Addr) (q : Key × V) => H t = some (.tup [kV q.1, q.2])) ts kv → RepTs c r H (kvs.map fun p => .tup [p.1, p.2]) (ts.map V.ref)
  | [], kv, ts, z, q => by
    obtain rfl := (show kv = [] from z)
    cases q
    rfl
  | p :: ps, kv, ts, z, q => by
    obtain ⟨k, v, ws, rfl, _, h1, h2, h3⟩ := z
    cases q with
    | cons h t => exact ⟨_, _, rfl, ⟨_, _, rfl, ⟨.inl (.inl h), fun _ => h⟩, ⟨_, _, rfl, h1, ⟨_, _, rfl, h2, rfl⟩⟩⟩, rep_items h3 t⟩
theorem rep_vals {r : List Addr} {H : Hp} : ∀ {kvs : List (T × T)} {kv : List (Key × V)}, RepK c r H kvs kv → RepTs c r H (kvs.map fun p => p.2) (kv.map (·.2))
  | [], kv, z => by rw [show kv = [] from z]; rfl
  | p :: ps, kv, z => by
    obtain ⟨k, v, ws, rfl, _, _, h2, h3⟩ := z
    exact ⟨v, _, rfl, h2, rep_vals h3⟩
theorem boot_lst : bootBuiltins "list" = some (.type "list") := by decide +kernel
/-- list(e.items()) -/
theorem ok_litm (C : Cm c n N sc X) {a : Ex} {e : Expr} {p ap cp pos : Pos} (m1 : glB sc "list" = true) (hl : (ap.endLine == cp.line) = true) (hr : recvB e = true) (ha : OkE c n X a e) : OkE c n X (.bix .list (.itm a)) (.Call (.Name "list" p) [.Call (.Attribute e "items" ap) [] [] cp] [] pos) := by
  obtain ⟨g1, g2⟩ := C.gl m1
  have hm : X.mg "list" = none := by rw [C.emg]; exact C.tx.bl _ (by decide +kernel)
  refine okE_pe (PE.imp' (LiI.pe_listItems C.calm ha.pe g1 hm boot_lst (attr_ok hr) hl) fun sv H Q ⟨s, h, r, SR, hh, o⟩ => ?_) rfl (fun _ => rfl)
  simp only [evE, evI, bd_assoc] at o
  refine tEx_bd SR hh o fun v H1 d h1 r1 z fr hh1 ee SR1 o1 => ?_
  cases e1 : dctOf d h1 with
  | none => rw [e1] at o1; exact o1.elim
  | some kk =>
    obtain ⟨k, kvs⟩ := kk
    rw [e1] at o1
    cases k with
    | true => exact o1.elim
    | false =>
    simp only [Bool.false_eq_true, if_false, bd_ok] at o1
    obtain ⟨d2, e2, q2⟩ := Out.some (o1.mv bk_D ee)
    simp only [bixD] at e2
    cases e2
    obtain ⟨b, rfl, kv, z1, z2⟩ := dct_read z hh1 e1
    refine ⟨b, kv, rfl, z1, fun H' l ts gr nl _ _ hl1 ht => ?_⟩
    exact q2 (.ref l) r1 H' ⟨⟨l, _, rfl, hl1, rep_items (RepK.ext (Ext.grow gr) _ _ z2) ht, hh1.nin nl⟩, fun _ a e => by cases e; exact nl⟩ (hh1.grow gr) (Ext.grow gr)
/-- list(e.values()) -/
theorem ok_lvls (C : Cm c n N sc X) {a : Ex} {e : Expr} {p ap cp pos : Pos} (m1 : glB sc "list" = true) (hl : (ap.endLine == cp.line) = true) (hr : recvB e = true) (ha : OkE c n X a e) : OkE c n X (.bix .list (.vls a)) (.Call (.Name "list" p) [.Call (.Attribute e "values" ap) [] [] cp] [] pos) := by
  obtain ⟨g1, g2⟩ := C.gl m1
  have hm : X.mg "list" = none := by rw [C.emg]; exact C.tx.bl _ (by decide +kernel)
  refine okE_pe (PE.imp' (pe_listValues C.calm ha.pe g1 hm boot_lst (attr_ok hr) hl) fun sv H Q ⟨s, h, r, SR, hh, o⟩ => ?_) rfl (fun _ => rfl)
  simp only [evE, evI, bd_assoc] at o
  refine tEx_bd SR hh o fun v H1 d h1 r1 z fr hh1 ee SR1 o1 => ?_
  cases e1 : dctOf d h1 with
  | none => rw [e1] at o1; exact o1.elim
  | some kk =>
    obtain ⟨k, kvs⟩ := kk
    rw [e1] at o1
    cases k with
    | true => exact o1.elim
    | false =>
    simp only [Bool.false_eq_true, if_false, bd_ok] at o1
    obtain ⟨d2, e2, q2⟩ := Out.some (o1.mv bk_D ee)
    simp only [bixD] at e2
    cases e2
    obtain ⟨b, rfl, kv, z1, z2⟩ := dct_read z hh1 e1
    exact ⟨b, kv, rfl, z1, fun p3 hp => fin_tl q2 hh1 hp (rep_vals z2)⟩
/-- o.index(a) -/
theorem ok_index (C : Cm c n N sc X) {o a : Ex} {e e1 : Expr} {ap cp : Pos} (hl : (ap.endLine == cp.line) = true) (hr : recvB e = true) (ho : OkE c n X o e) (ha : OkE c n X a e1) : OkE c n X (.me .index o [a]) (.Call (.Attribute e "index" ap) [e1] [] cp) := by
  have st : starEach [e1] X.env = [(false, eval e1 X.env)] := hd_star ha.hd [] X.env
  refine okE_pe (PE.imp' (pe_bm PySem.F.plainAttrs_str PySem.F.slot_str_index PySem.F.type_str_index mt_sindex ho.pe (pa_cons ha.pe pa_nil (hd_star ha.hd _ _)) (attr_ok hr) (by rw [st]; rfl) hl (hd_star ha.hd _ _) rfl) fun sv H Q ⟨s, h, r, SR, hh, oo⟩ => ?_) rfl (fun _ => rfl)
  simp only [evE, evL, bd_assoc, bd_ok] at oo
  refine tEx_bd SR hh oo fun v H1 d h1 r1 z fr hh1 ee SR1 o1 => ?_
  split at o1
  case isFalse => exact o1.elim
  rename_i hrv
  have sr : ∃ sp, d = .s (.str sp) := by
    cases d with
    | s t => cases t <;> first | exact ⟨_, rfl⟩ | (cases hrv; done)
    | _ => cases hrv
  obtain ⟨sp, rfl⟩ := sr
  obtain ⟨rfl, hsp⟩ := (show v = .str ⟨sp.toArray⟩ ∧ sp.length ≤ sizeLine from z)
  refine ⟨rfl, ?_⟩
  refine tEx_bd SR1 hh1 (o1.mv bk_D ee) fun w H2 d2 h2 r2 z2 fr2 hh2 ee2 SR2 o2 => ?_
  obtain ⟨d3, e3, q3⟩ := Out.some (o2.mv bk_D ee2)
  simp only [meD] at e3
  unfold meIndex at e3
  split at e3
  · rename_i cs zz e4 e5
    cases e4
    cases e5
    obtain ⟨rfl, _⟩ := (show w = .str ⟨zz.toArray⟩ ∧ _ from z2)
    split at e3
    · rename_i i rest eo
      cases e3
      exact ⟨_, _, i, rest, rfl, rfl, eo, fin_T q3 hh2 rfl⟩
    · cases e3
  · cases e3
end
end Rm
set_option Elab.async false
set_option linter.all false
set_option autoImplicit false
set_option maxRecDepth 100000
/-! Soundness 15: enumerate, zip: what they give. -/
namespace Rm
open PySem PySem.Spec PyProof.Rows L2
structure Gs (c : Tx) (xs : List T) (gs : List Nat) (sk : Sk) (r0 : List Addr) (h0 : LH) (H0 : Hp) (tmp : Addr → Prop) (G : List Addr → LH → Hp → Prop) : Prop where
  has : ∀ r h H, G r h H → ∃ vs, sk.has c.K H vs ∧ RepTs c r H xs vs
  keep : ∀ W r h H, (∀ a, tmp a → ¬ W a) → ExtW c W r0 H0 r H → HRel c r h H → stay gs h0 h = true → G r h H
section
variable {c : Tx} {n : Nat} {X : Cx} {N : List Str} {sc : Scope}
theorem Gs.tmp {xs : List T} {gs : List Nat} {sk : Sk} {r : List Addr} {h : LH} {H : Hp} {t t' : Addr → Prop} {G : List Addr → LH → Hp → Prop} (g : Gs c xs gs sk r h H t G) (f : ∀ a, t a → t' a) : Gs c xs gs sk r h H t' G :=
  ⟨g.has, fun W r h H hW => g.keep W r h H fun a ha => hW a (f a ha)⟩
theorem strs_rep {cs : List Nat} {r : List Addr} {H : Hp} : RepTs c r H (cs.map fun ch => T.str [ch]) (cs.map fun ch => V.str ⟨#[ch]⟩) := by
  induction cs with
  | nil => rfl
  | cons a as ih => exact ⟨_, _, rfl, ⟨rfl, by show 1 ≤ sizeLine; decide⟩, ih⟩
theorem sk_of {a : Ex} {d : D} {h : LH} {p : List T × List Nat} {H0 : Hp} {s : Sg} {sv : L2.St} {v : V} {r : List Addr} {H : Hp} (e : itX a d h = some p) (g : Got c a d h H0 s sv v r H) :
    ∃ (sk : Sk) (vs : List V) (G : List Addr → LH → Hp → Prop), v = sk.v ∧ sk.has c.K H vs ∧ p.1.length = vs.length ∧ Gs c p.1 p.2 sk r h H (Tmp H0 (slotE a) s sv) G := by
  have lst : ∀ (b : Addr) (vs : List V) (xs : List T), H b = some (.lst vs) → RepTs c r H xs vs → b ∉ r → Gs c xs [] (.l b) r h H (fun x => x = b) (fun r _ H => H b = some (.lst vs) ∧ RepTs c r H xs vs) := fun b vs xs z1 z2 nb =>
    ⟨fun r h H ⟨q, w⟩ => ⟨vs, .inl (.inl q), w⟩, fun W r h H hW e hh _ => ⟨e.keep b _ z1 nb (hW b rfl), RepTs.extW e _ _ z2⟩⟩
  unfold itX at e
  split at e
  · rename_i xs
    split at e
    · rename_i i
      cases e
      obtain ⟨b, vs, rfl, z1, z2, nb⟩ := g.z
      obtain ⟨d', e1, e2, e3⟩ := g.hv i rfl
      refine ⟨.l b, vs, _, rfl, .inl (.inl z1), z2.length.symm, (lst b vs xs z1 z2 nb).tmp fun b' hb => ?_⟩
      subst hb
      exact .inr ⟨i, d', by simp [slotE], e1, e2, xs, e3.symm⟩
    · cases e
  · rename_i hn
    cases d with
    | vw xs => exact absurd rfl (hn xs)
    | dt k kvs => cases e
    | dv k kvs => cases e
    | tl xs =>
      cases e
      obtain ⟨b, vs, rfl, z1, z2, nb⟩ := g.z
      refine ⟨.l b, vs, _, rfl, .inl (.inl z1), z2.length.symm, (lst b vs xs z1 z2 nb).tmp fun b' hb => ?_⟩
      subst hb
      exact .inl (g.fr rfl _ rfl)
    | s t =>
      cases t with
      | tup xs =>
        cases e
        obtain ⟨b, vs, rfl, s1, t1⟩ := g.z
        exact ⟨.t b, vs, fun r _ H => SqT c.K H b vs ∧ RepTs c r H xs vs, rfl, s1.sq, t1.length.symm, fun r h H ⟨q, w⟩ => ⟨vs, q, w⟩, fun W r h H hW e hh _ => ⟨e.tup _ _ s1.sq, RepTs.extW e _ _ t1⟩⟩
      | fl xs =>
        cases e
        obtain ⟨b, vs, rfl, s1, t1⟩ := g.z
        exact ⟨.l b, vs, fun r _ H => Frl c.K H b vs ∧ RepTs c r H xs vs, rfl, s1.sq, t1.length.symm, fun r h H ⟨q, w⟩ => ⟨vs, q.sq, w⟩, fun W r h H hW e hh _ => ⟨s1.extW e, RepTs.extW e _ _ t1⟩⟩
      | str cs =>
        cases e
        obtain ⟨rfl, hl⟩ := g.z
        have hs : Sk.has c.K H (.s ⟨cs.toArray⟩) (cs.map fun ch => V.str ⟨#[ch]⟩) := ⟨rfl, by simpa using hl⟩
        exact ⟨.s ⟨cs.toArray⟩, cs.map fun ch => V.str ⟨#[ch]⟩, fun _ _ _ => True, rfl, hs, by simp, fun r h H _ => ⟨_, ⟨rfl, by simpa using hl⟩, strs_rep⟩, fun _ _ _ _ _ _ _ _ => True.intro⟩
      | ref m =>
        simp only [itOf] at e
        cases q : h[m]? with
        | none => rw [q] at e; cases e
        | some o =>
          rw [q] at e
          cases o with
          | lst xs =>
            cases e
            obtain ⟨b, h1, rfl⟩ := g.z
            have w := g.hh.ob m b _ h1 q
            obtain ⟨vs, z1, z2⟩ := w
            refine ⟨.l b, vs, fun r _ H => ∃ vs, H b = some (.lst vs) ∧ RepTs c r H xs vs, rfl, .inl (.inl z1), z2.length.symm, fun r h H ⟨vs, q, w⟩ => ⟨vs, .inl (.inl q), w⟩, fun W r' h' H' hW e hh st => ?_⟩
            have st' : h'[m]? = h[m]? := by simpa [stay] using st
            exact hh.ob m b (.lst xs) (e.at h1) (st'.trans q)
          | dct k kvs => cases e
      | _ => cases e
theorem enmT_get : ∀ (xs : List T) (k i : Nat) (t : T), xs[i]? = some t → (enmT k xs)[i]? = some (.tup [.int ((k + i : Nat) : Int), t])
  | [], k, i, t, e => by simp at e
  | x :: xs, k, 0, t, e => by simp at e; subst e; rfl
  | x :: xs, k, i + 1, t, e => by
    have := enmT_get xs (k + 1) i t (by simpa using e)
    rw [show k + 1 + i = k + (i + 1) by omega] at this
    simpa [enmT] using this
theorem enmT_len : ∀ (xs : List T) (k : Nat), (enmT k xs).length = xs.length
  | [], k => rfl
  | x :: xs, k => by simp [enmT, enmT_len xs]
theorem gd_enm {xs : List T} {gs : List Nat} {sk : Sk} {r0 : List Addr} {h0 : LH} {H0 : Hp} {tmp : Addr → Prop} {G : List Addr → LH → Hp → Prop} (g : Gs c xs gs sk r0 h0 H0 tmp G) : Gd c (enmT 0 xs) gs (IteZ c.K sk) r0 h0 H0 tmp G where
  goes := fun i r h H hi z => by
    rw [enmT_len] at hi
    obtain ⟨vs, q, w⟩ := g.has r h H z
    have l := w.length
    exact ⟨vs, vs[i]'(by omega), q, by simp [show i < vs.length by omega]⟩
  stops := fun r h H z => by
    obtain ⟨vs, q, w⟩ := g.has r h H z
    exact ⟨vs, q, by rw [enmT_len, w.length]⟩
  yields := fun i r h H v H' hi z hh ⟨T0, x, e1, hT, e2, e3⟩ => by
    rw [enmT_len] at hi
    subst e1 e2
    obtain ⟨vs, q, w⟩ := g.has r h H z
    have et : xs[i]? = some xs[i] := List.getElem?_eq_getElem hi
    obtain ⟨v', e4, e5⟩ := w.get et
    have := e3 vs q
    rw [e4] at this
    cases this
    have ee : Ext c r H r (upd H T0 (.tup [.int (i : Nat), x])) := Ext.new hT
    refine ⟨_, enmT_get xs 0 i _ et, ee, hh.new hT, T0, _, rfl, ⟨.inl (.inl upd_same), fun _ => upd_same⟩, _, _, rfl, ?_, _, _, rfl, RepT.ext ee _ _ e5, rfl⟩
    show V.int _ = V.int _
    simp
  keep := g.keep
theorem zip2_get : ∀ (xs ys : List T) (i : Nat) (t u : T), xs[i]? = some t → ys[i]? = some u → (zip2 xs ys)[i]? = some (.tup [t, u])
  | [], ys, i, t, u, e, e' => by simp at e
  | x :: xs, [], i, t, u, e, e' => by simp at e'
  | x :: xs, y :: ys, 0, t, u, e, e' => by simp at e e'; subst e e'; rfl
  | x :: xs, y :: ys, i + 1, t, u, e, e' => by
    have := zip2_get xs ys i t u (by simpa using e) (by simpa using e')
    simpa [zip2] using this
theorem zip2_len : ∀ (xs ys : List T), (zip2 xs ys).length = min xs.length ys.length
  | [], ys => by simp [zip2]
  | x :: xs, [] => by simp [zip2]
  | x :: xs, y :: ys => by simp [zip2, zip2_len xs ys]
theorem gd_zip {xs ys : List T} {gs gs' : List Nat} {sa sb : Sk} {r0 : List Addr} {h0 : LH} {H0 : Hp} {tmp : Addr → Prop} {G G' : List Addr → LH → Hp → Prop} (g : Gs c xs gs sa r0 h0 H0 tmp G) (g' : Gs c ys gs' sb r0 h0 H0 tmp G') :
    Gd c (zip2 xs ys) (gs ++ gs') (ItzZ c.K sa sb) r0 h0 H0 tmp (fun r h H => G r h H ∧ G' r h H) where
  goes := fun i r h H hi z => by
    rw [zip2_len] at hi
    obtain ⟨vs, q, w⟩ := g.has r h H z.1
    obtain ⟨us, q', w'⟩ := g'.has r h H z.2
    have l := w.length
    have l' := w'.length
    exact ⟨vs, us, vs[i]'(by omega), us[i]'(by omega), q, q', by simp [show i < vs.length by omega], by simp [show i < us.length by omega]⟩
  stops := fun r h H z => by
    obtain ⟨vs, q, w⟩ := g.has r h H z.1
    obtain ⟨us, q', w'⟩ := g'.has r h H z.2
    have l := w.length
    have l' := w'.length
    exact ⟨vs, us, q, q', by rw [zip2_len]; omega, by rw [zip2_len]; omega, by rw [zip2_len]; omega⟩
  yields := fun i r h H v H' hi z hh ⟨T0, x, y, e1, hT, e2, e3, e3'⟩ => by
    rw [zip2_len] at hi
    subst e1 e2
    obtain ⟨vs, q, w⟩ := g.has r h H z.1
    obtain ⟨us, q', w'⟩ := g'.has r h H z.2
    have et : xs[i]? = some (xs[i]'(by omega)) := List.getElem?_eq_getElem (by omega)
    have et' : ys[i]? = some (ys[i]'(by omega)) := List.getElem?_eq_getElem (by omega)
    obtain ⟨v', e4, e5⟩ := w.get et
    obtain ⟨u', e4', e5'⟩ := w'.get et'
    have := e3 vs q
    rw [e4] at this
    cases this
    have := e3' us q'
    rw [e4'] at this
    cases this
    have ee : Ext c r H r (upd H T0 (.tup [x, y])) := Ext.new hT
    exact ⟨_, zip2_get xs ys i _ _ et et', ee, hh.new hT, T0, _, rfl, ⟨.inl (.inl upd_same), fun _ => upd_same⟩, _, _, rfl, RepT.ext ee _ _ e5, _, _, rfl, RepT.ext ee _ _ e5', rfl⟩
  keep := fun W r h H hW e hh st => by
    unfold stay at st
    rw [List.all_append, Bool.and_eq_true] at st
    exact ⟨g.keep W r h H hW e hh st.1, g'.keep W r h H hW e hh st.2⟩
theorem Got.mv {a : Ex} {d : D} {h h1 : LH} {H0 : Hp} {s : Sg} {sv : L2.St} {v : V} {r r1 : List Addr} {H H1 : Hp} (g : Got c a d h H0 s sv v r H) (ee : Ext c r H r1 H1) (hh : HRel c r1 h1 H1) : Got c a d h1 H0 s sv v r1 H1 :=
  ⟨g.z.ext ee, g.fr, hh, g.hv⟩
theorem Tmp.mono {H : Hp} {is js : List Nat} {s : Sg} {sv : L2.St} {a : Addr} (h : Tmp H is s sv a) (f : ∀ i ∈ is, i ∈ js) : Tmp H js s sv a := by
  rcases h with h | ⟨i, d, hi, r⟩
  · exact .inl h
  · exact .inr ⟨i, d, f i hi, r⟩
theorem ok_Ienm (C : Cm c n N sc X) {a : Ex} {elts : List Expr} {kk : Nat} {tpos p pos : Pos} {e : Expr} {te : TE} (m : glB sc "enumerate" = true) (hd : okHead e = true) (ha : OkW c n X a e te) : PI X (.Tuple elts kk tpos) (.Call (.Name "enumerate" p) [e] [] pos) (tIx c n (.enm a)) := by
  obtain ⟨g1, g2⟩ := C.gl m
  have hm : X.mg "enumerate" = none := by rw [C.emg]; exact C.tx.bl _ (by decide +kernel)
  refine ⟨fun pins s0 σ H Rr I z => (pi_enumZ g1 hm (pa_cons ha.pe pa_nil (hd_star hd _ _)) (hd_star hd _ _)).run pins s0 σ H Rr I ?_⟩
  obtain ⟨s, h, r, SR, hh, o⟩ := z
  simp only [evI] at o
  cases q : evE c.P (callF c.P n) a s h with
  | exc x y => rw [q] at o; exact o.elim
  | bad => rw [q] at o; exact o.elim
  | ok d h1 =>
    rw [q, bd_ok] at o
    cases q2 : itX a d h1 with
    | none => rw [q2] at o; exact o.elim
    | some p =>
      rw [q2, toR_some, bd_ok] at o
      refine ha.rd SR hh q fun v r1 H1 g ee => ?_
      obtain ⟨sk, vs, G, rfl, hs, el, gs⟩ := sk_of q2 g
      refine ⟨sk, vs, rfl, by rw [C.eK]; exact hs, fun hz => ?_⟩
      rw [C.eK]
      exact o _ r1 H1 G (gd_enm gs) (by rw [enmT_len]; omega) g.hh ee
theorem Got.back {a : Ex} {d : D} {h : LH} {H0 H0' : Hp} {s : Sg} {sv : L2.St} {v : V} {r r0 r0' : List Addr} {H : Hp} (g : Got c a d h H0' s sv v r H) (ee : Ext c r0 H0 r0' H0') : Got c a d h H0 s sv v r H :=
  ⟨g.z, g.fr.back ee, g.hh, g.hv⟩
theorem ok_Izp (C : Cm c n N sc X) {a b : Ex} {elts : List Expr} {kk : Nat} {tpos p pos : Pos} {e e' : Expr} {te te' : TE} (m : glB sc "zip" = true) (hd : okHead e = true) (hd' : okHead e' = true) (ha : OkW c n X a e te) (hb : OkW c n X b e' te') : PI X (.Tuple elts kk tpos) (.Call (.Name "zip" p) [e, e'] [] pos) (tIx c n (.zp [a, b])) := by
  obtain ⟨g1, g2⟩ := C.gl m
  have hm : X.mg "zip" = none := by rw [C.emg]; exact C.tx.bl _ (by decide +kernel)
  have st1 := hd_star hd' [] X.env
  refine ⟨fun pins s0 σ H Rr I z => (pi_zipZ g1 hm (pa_cons ha.pe (pa_cons hb.pe pa_nil st1) (hd_star hd _ _)) (hd_star hd _ _) (by rw [st1]; rfl)).run pins s0 σ H Rr I ?_⟩
  obtain ⟨s, h, r, SR, hh, o⟩ := z
  simp only [evI, evL] at o
  cases q : evE c.P (callF c.P n) a s h with
  | exc x y => rw [q] at o; exact o.elim
  | bad => rw [q] at o; exact o.elim
  | ok d h1 =>
    rw [q, bd_ok] at o
    cases q' : evE c.P (callF c.P n) b s h1 with
    | exc x y => rw [q'] at o; exact o.elim
    | bad => rw [q'] at o; exact o.elim
    | ok d' h2 =>
      rw [q', bd_ok] at o
      simp only [bd_ok, zipD] at o
      refine ha.rd SR hh q fun v r1 H1 g ee => ?_
      refine hb.rd (SR.ext ee) g.hh q' fun v' r2 H2 g' ee' => ?_
      cases q2 : itX a d h2 with
      | none => simp only [q2] at o; exact o.elim
      | some p1 =>
        cases q3 : itX b d' h2 with
        | none => simp only [q2, q3] at o; exact o.elim
        | some p2 =>
          simp only [q2, q3, toR_some] at o
          obtain ⟨sk, vs, G, rfl, hs, el, gs⟩ := sk_of q2 (g.mv ee' g'.hh)
          obtain ⟨sk', vs', G', rfl, hs', el', gs'⟩ := sk_of q3 (g'.back ee)
          refine ⟨sk, sk', vs, vs', rfl, by rw [C.eK]; exact hs, by rw [C.eK]; exact hs', fun hz hz' => ?_⟩
          rw [C.eK]
          refine o _ r2 H2 _ (gd_zip (gs.tmp fun x hx => hx.mono fun i hi => ?_) (gs'.tmp fun x hx => hx.mono fun i hi => ?_)) (by rw [zip2_len]; omega) g'.hh (ee.trans ee')
          · simp [slotI, hi]
          · simp [slotI, hi]
theorem ok_IzpN (C : Cm c n N sc X) {a b : Ex} {nm : Str} {tpos p pos : Pos} {e e' : Expr} {te te' : TE} (m : glB sc "zip" = true) (hd : okHead e = true) (hd' : okHead e' = true) (ha : OkW c n X a e te) (hb : OkW c n X b e' te') : PI X (.Name nm tpos) (.Call (.Name "zip" p) [e, e'] [] pos) (tIx c n (.zp [a, b])) := by
  obtain ⟨g1, g2⟩ := C.gl m
  have hm : X.mg "zip" = none := by rw [C.emg]; exact C.tx.bl _ (by decide +kernel)
  have st1 := hd_star hd' [] X.env
  refine ⟨fun pins s0 σ H Rr I z => (pi_zipN g1 hm (pa_cons ha.pe (pa_cons hb.pe pa_nil st1) (hd_star hd _ _)) (hd_star hd _ _) (by rw [st1]; rfl)).run pins s0 σ H Rr I ?_⟩
  obtain ⟨s, h, r, SR, hh, o⟩ := z
  simp only [evI, evL] at o
  cases q : evE c.P (callF c.P n) a s h with
  | exc x y => rw [q] at o; exact o.elim
  | bad => rw [q] at o; exact o.elim
  | ok d h1 =>
    rw [q, bd_ok] at o
    cases q' : evE c.P (callF c.P n) b s h1 with
    | exc x y => rw [q'] at o; exact o.elim
    | bad => rw [q'] at o; exact o.elim
    | ok d' h2 =>
      rw [q', bd_ok] at o
      simp only [bd_ok, zipD] at o
      refine ha.rd SR hh q fun v r1 H1 g ee => ?_
      refine hb.rd (SR.ext ee) g.hh q' fun v' r2 H2 g' ee' => ?_
      cases q2 : itX a d h2 with
      | none => simp only [q2] at o; exact o.elim
      | some p1 =>
        cases q3 : itX b d' h2 with
        | none => simp only [q2, q3] at o; exact o.elim
        | some p2 =>
          simp only [q2, q3, toR_some] at o
          obtain ⟨sk, vs, G, rfl, hs, el, gs⟩ := sk_of q2 (g.mv ee' g'.hh)
          obtain ⟨sk', vs', G', rfl, hs', el', gs'⟩ := sk_of q3 (g'.back ee)
          refine ⟨sk, sk', vs, vs', rfl, by rw [C.eK]; exact hs, by rw [C.eK]; exact hs', fun hz hz' => ?_⟩
          rw [C.eK]
          refine o _ r2 H2 _ (gd_zip (gs.tmp fun x hx => hx.mono fun i hi => ?_) (gs'.tmp fun x hx => hx.mono fun i hi => ?_)) (by rw [zip2_len]; omega) g'.hh (ee.trans ee')
          · simp [slotI, hi]
          · simp [slotI, hi]
end
end Rm
set_option Elab.async false
set_option linter.all false
set_option autoImplicit false
set_option maxRecDepth 100000
set_option maxHeartbeats 1000000
/-! Soundness: list(zip(a, b)). -/
namespace Rm
open PySem PySem.Spec PyProof.Rows L2
section
variable {c : Tx} {n : Nat} {X : Cx} {N : List Str} {sc : Scope}
theorem rep_zip {r : List Addr} {H : Hp} : ∀ {xs ys : List T} {vs ws : List V} {ts : List Addr}, RepTs c r H xs vs → RepTs c r H ys ws → ts.length = min vs.length ws.length → (∀ (j : Nat) (t : Addr), ts[j]? = some t → ∃ x y, vs[j]? = some x ∧ ws[j]? = some y ∧ H t = some (.tup [x, y])) → RepTs c r H (zip2 xs ys) (ts.map V.ref)
  | [], ys, vs, ws, ts, h1, h2, l, _ => by
    obtain rfl := (show vs = [] from h1)
    have : ts = [] := by cases ts with | nil => rfl | cons _ _ => simp at l
    rw [this]; rfl
  | x :: xs, [], vs, ws, ts, h1, h2, l, _ => by
    obtain rfl := (show ws = [] from h2)
    have : ts = [] := by cases ts with | nil => rfl | cons _ _ => simp at l
    rw [this]; rfl
  | x :: xs, y :: ys, vs, ws, ts, h1, h2, l, k => by
    obtain ⟨v, vs', rfl, a1, a2⟩ := h1
    obtain ⟨w, ws', rfl, b1, b2⟩ := h2
    cases ts with
    | nil => simp at l
    | cons t ts =>
      obtain ⟨v', w', e1, e2, ht⟩ := k 0 t rfl
      cases e1; cases e2
      refine ⟨.ref t, _, rfl, ⟨t, _, rfl, ⟨.inl (.inl ht), fun _ => ht⟩, ⟨_, _, rfl, a1, ⟨_, _, rfl, b1, rfl⟩⟩⟩, ?_⟩
      exact rep_zip a2 b2 (by simp at l; omega) fun j t hj => by
        obtain ⟨v', w', e1, e2, ht⟩ := k (j + 1) t (by simpa using hj)
        exact ⟨v', w', by simpa using e1, by simpa using e2, ht⟩
theorem ok_lzip (C : Cm c n N sc X) {a b : Ex} {p p2 pos pos2 : Pos} {e e' : Expr} {te te' : TE} (m1 : glB sc "list" = true) (m : glB sc "zip" = true) (hd : okHead e = true) (hd' : okHead e' = true) (ha : OkW c n X a e te) (hb : OkW c n X b e' te') :
    OkE c n X (.bix .list (.zp [a, b])) (.Call (.Name "list" p) [.Call (.Name "zip" p2) [e, e'] [] pos2] [] pos) := by
  obtain ⟨g1, g2⟩ := C.gl m
  obtain ⟨g3, g4⟩ := C.gl m1
  have hm : X.mg "zip" = none := by rw [C.emg]; exact C.tx.bl _ (by decide +kernel)
  have hm1 : X.mg "list" = none := by rw [C.emg]; exact C.tx.bl _ (by decide +kernel)
  have st1 := hd_star hd' [] X.env
  refine okE_pe (PE.imp' (pe_listZip C.calm g3 hm1 g1 hm (pa_cons ha.pe (pa_cons hb.pe pa_nil st1) (hd_star hd _ _)) (hd_star hd _ _) (by rw [st1]; rfl)) fun sv H Q ⟨s, h, r, SR, hh, o⟩ => ?_) rfl (fun _ => rfl)
  simp only [evE, evI, evL] at o
  cases q : evE c.P (callF c.P n) a s h with
  | exc x y => rw [q] at o; exact o.elim
  | bad => rw [q] at o; exact o.elim
  | ok d h1 =>
    rw [q, bd_ok] at o
    cases q' : evE c.P (callF c.P n) b s h1 with
    | exc x y => rw [q'] at o; exact o.elim
    | bad => rw [q'] at o; exact o.elim
    | ok d' h2 =>
      rw [q', bd_ok] at o
      simp only [bd_ok, zipD] at o
      refine ha.rd SR hh q fun v r1 H1 g ee => ?_
      refine hb.rd (SR.ext ee) g.hh q' fun v' r2 H2 g' ee' => ?_
      cases q2 : itX a d h2 with
      | none => simp only [q2] at o; exact o.elim
      | some p1 =>
        cases q3 : itX b d' h2 with
        | none => simp only [q2, q3] at o; exact o.elim
        | some p2 =>
          simp only [q2, q3, toR_some, bd_ok] at o
          obtain ⟨d2, e2, qq⟩ := Out.some (o.mv bk_D (ee.trans ee'))
          simp only [bixD] at e2
          cases e2
          obtain ⟨sk, vs, G, rfl, hs, el, gs⟩ := sk_of q2 (g.mv ee' g'.hh)
          obtain ⟨sk', vs', G', rfl, hs', el', gs'⟩ := sk_of q3 (g'.back ee)
          obtain ⟨v0, hs0, rt0⟩ := gs.has r2 h2 H2 (gs.keep (fun _ => False) r2 h2 H2 (fun _ _ h => h) (Ext.refl.w _) g'.hh (by simp [stay]))
          obtain ⟨w0, hs1, rt1⟩ := gs'.has r2 h2 H2 (gs'.keep (fun _ => False) r2 h2 H2 (fun _ _ h => h) (Ext.refl.w _) g'.hh (by simp [stay]))
          refine ⟨sk, sk', v0, w0, rfl, by rw [C.eK]; exact hs0, by rw [C.eK]; exact hs1, fun H' l ts gr nl hl1 hlen ht => ?_⟩
          exact qq (.ref l) r2 H' ⟨⟨l, _, rfl, hl1, rep_zip (RepTs.ext (Ext.grow gr) _ _ rt0) (RepTs.ext (Ext.grow gr) _ _ rt1) hlen ht, g'.hh.nin nl⟩, fun _ a e => by cases e; exact nl⟩ (g'.hh.grow gr) (Ext.grow gr)
end
end Rm
set_option Elab.async false
set_option linter.all false
set_option autoImplicit false
set_option maxRecDepth 100000
/-! Soundness 16: dicts of the module, dict displays. -/
namespace Rm
open PySem PySem.Spec PyProof.Rows L2
section
variable {c : Tx} {n : Nat} {X : Cx} {N : List Str} {sc : Scope}
def rGin (neg : Bool) (a : Addr) (kvs : List (T × T)) : R2 := fun x y H Q => ∃ z : List Nat, x = .str ⟨z.toArray⟩ ∧ y = .ref a ∧ Q (.bl (if neg then !(lookT (.str z) kvs).isSome else (lookT (.str z) kvs).isSome)) H
theorem gin_op (eK : X.K = c.K) {neg : Bool} {a : Addr} {kvs : List (T × T)} (G : GdOk c X.w a kvs) : OpR X (compareOp (if neg then .NotIn else .In)) (rGin neg a kvs) := by
  intro pins s σ H x y v u Q I rx ry h
  obtain ⟨z, rfl, rfl, q⟩ := h
  obtain ⟨t, rfl⟩ := (show ∃ t, v = Value.str ⟨z.toArray⟩ t from rx)
  obtain rfl : u = Value.ref a := ry
  obtain ⟨es, m, hl, hk⟩ := G.dct
  rw [← eK] at hl
  have hm := PySem.W.mapOf_K (prog := X.prog) (w := X.w) I.kIn hl hk
  have hs : (findBy Value.isStrOf es ⟨z.toArray⟩).isSome = (lookT (.str z) kvs).isSome := by
    rcases G.at_ z with ⟨t, u, v, e1, e2, _⟩ | ⟨e1, e2⟩
    · rw [← eK] at e2
      rw [PySem.W.find_K hl e2, e1]; rfl
    · rw [← eK] at e2
      rw [PySem.W.find_K hl e2, e1]; rfl
  cases neg with
  | false =>
    refine wpAny_in_of (strKind_is X.prog X.w _ t) G.low hm ⟨.bl _, H, I.tok _, rfl, ?_⟩
    rw [hs]; exact q
  | true =>
    refine wpAny_notIn_of (strKind_is X.prog X.w _ t) G.low hm ⟨.bl _, H, I.tok _, rfl, ?_⟩
    rw [hs]; exact q
theorem ok_gin (C : Cm c n N sc X) {neg : Bool} {a : Ex} {k : Nat} {l : Expr} {x : Str} {p pos : Pos} (m : (decide (c.nm.gn k = x) && glB sc x) = true) (ha : OkE c n X a l) : OkE c n X (.gin neg a k) (.Compare l [if neg then .NotIn else .In] [.Name x p] pos) := by
  obtain ⟨m1, m2⟩ := Bool.and_eq_true_iff.mp m
  have m1 := of_decide_eq_true m1
  obtain ⟨g1, g2⟩ := C.gl m2
  cases qk : c.P.gd k with
  | none =>
    have bad : ∀ s h d h1, evE c.P (callF c.P n) (.gin neg a k) s h ≠ .ok d h1 := fun s h d h1 e => by
      simp only [evE, qk] at e
      cases q : evE c.P (callF c.P n) a s h with
      | ok d h1 =>
        rw [q, bd_ok] at e
        split at e <;> cases e
      | exc x y => rw [q] at e; cases e
      | bad => rw [q] at e; cases e
    have nb : ∀ s h x h1, evE c.P (callF c.P n) (.gin neg a k) s h = .exc x h1 → evE c.P (callF c.P n) a s h = .exc x h1 := fun s h x h1 e => by
      simp only [evE, qk] at e
      cases q : evE c.P (callF c.P n) a s h with
      | ok d h1 =>
        rw [q, bd_ok] at e
        split at e <;> cases e
      | exc x y => rw [q] at e; exact e
      | bad => rw [q] at e; cases e
    refine ⟨⟨fun _ _ _ _ _ _ z => ?_⟩, ⟨fun _ _ _ _ _ _ z => ?_⟩, rfl⟩
    · obtain ⟨s, h, r, SR, hh, o⟩ := z
      exfalso
      cases q : evE c.P (callF c.P n) (.gin neg a k) s h with
      | ok d h1 => exact bad s h d h1 q
      | exc x y => rw [q] at o; exact o
      | bad => rw [q] at o; exact o
    · obtain ⟨s, h, r, SR, hh, o⟩ := z
      exfalso
      cases q : evE c.P (callF c.P n) (.gin neg a k) s h with
      | ok d h1 => exact bad s h d h1 q
      | exc x y => rw [q] at o; exact o
      | bad => rw [q] at o; exact o
  | some kvs =>
    obtain ⟨b, e1, G⟩ := C.gds k kvs qk
    have pg : PE X (.Name x p) (tC (.ref b)) := pe_glob (v := .ref b) g1 (by rw [C.emg, ← m1]; exact e1) rfl g2
    have hb : behindInMarks (if neg then CmpOp.NotIn else CmpOp.In) (.Name x p) = false := by cases neg <;> rfl
    refine ⟨PE.imp' (pe_cmpR (gin_op C.eK G) ha.pe pg hb) fun sv H Q ⟨s, h, r, SR, hh, o⟩ => ?_, PT.imp' (pt_cmpR (gin_op C.eK G) ha.pe pg hb) fun sv H Q ⟨s, h, r, SR, hh, o⟩ => ?_, rfl⟩
    · simp only [evE, qk] at o
      refine tEx_bd SR hh o fun v H1 d h1 r1 z fr hh1 ee SR1 o1 => ?_
      cases d with
      | s t =>
        cases t with
        | str zz =>
          obtain ⟨rfl, _⟩ := z
          exact ⟨zz, rfl, rfl, bl_Q o1 hh1 ee⟩
        | _ => exact o1.elim
      | _ => exact o1.elim
    · simp only [evE, qk, bd_assoc] at o
      refine tEx_bd SR hh o fun v H1 d h1 r1 z fr hh1 ee SR1 o1 => ?_
      cases d with
      | s t =>
        cases t with
        | str zz =>
          obtain ⟨rfl, _⟩ := z
          exact ⟨zz, rfl, rfl, _, rfl, o1 _ r1 H1 rfl hh1 ee⟩
        | _ => exact o1.elim
      | _ => exact o1.elim
theorem ok_gix (C : Cm c n N sc X) {a : Ex} {k : Nat} {e : Expr} {x : Str} {p pos : Pos} (m : (decide (c.nm.gn k = x) && glB sc x) = true) (ha : OkE c n X a e) : OkE c n X (.gix k a) (.Subscript (.Name x p) e pos) := by
  obtain ⟨m1, m2⟩ := Bool.and_eq_true_iff.mp m
  have m1 := of_decide_eq_true m1
  obtain ⟨g1, g2⟩ := C.gl m2
  cases qk : c.P.gd k with
  | none =>
    refine okE_pe ⟨fun _ _ _ _ _ _ z => ?_⟩ rfl (fun _ => rfl)
    obtain ⟨s, h, r, SR, hh, o⟩ := z
    exfalso
    simp only [evE, qk] at o
    cases q : evE c.P (callF c.P n) a s h with
    | ok d h1 =>
      rw [q, bd_ok] at o
      cases d with
      | s t => cases t <;> exact o
      | _ => exact o
    | exc x y => rw [q] at o; exact o
    | bad => rw [q] at o; exact o
  | some kvs =>
    obtain ⟨b, e1, G⟩ := C.gds k kvs qk
    have pg : PE X (.Name x p) (tC (.ref b)) := pe_glob (v := .ref b) g1 (by rw [C.emg, ← m1]; exact e1) rfl g2
    refine okE_pe (PE.imp' (pe_ix ix_kdict pg ha.pe (hd_ix ha.hd)) fun sv H Q ⟨s, h, r, SR, hh, o⟩ => ?_) rfl (fun _ => rfl)
    simp only [evE, qk] at o
    refine tEx_bd SR hh o fun v H1 d h1 r1 z fr hh1 ee SR1 o1 => ?_
    cases d with
    | s t =>
      cases t with
      | str zz =>
        obtain ⟨rfl, _⟩ := z
        rcases G.at_ zz with ⟨t, u, v, e1, e2, e3, e4⟩ | ⟨e1, e2⟩
        · simp only [e1, toR_some, bd_ok] at o1
          obtain ⟨es, m, hl, hk⟩ := G.dct
          rw [← C.eK] at hl e2
          exact ⟨b, ⟨zz.toArray⟩, v, rfl, rfl, ⟨es, m, u, hl, hk, e2, e3⟩, o1 v r1 H1 ⟨e4 r1 H1, fun e => by cases e⟩ hh1 ee⟩
        · simp only [e1] at o1; exact o1.elim
      | _ => exact o1.elim
    | _ => exact o1.elim
end
/-! ### dicts -/
section
variable {c : Tx} {n : Nat} {X : Cx} {N : List Str} {sc : Scope} {r : List Addr} {H : Hp}
/-- the pairs of a display -/
inductive Pr2 (c : Tx) (n : Nat) (X : Cx) : List Ex → List (Option Expr) → List Expr → Prop
  | nil : Pr2 c n X [] [] []
  | cons {x y : Ex} {k v : Expr} {xs : List Ex} {ks : List (Option Expr)} {vs : List Expr} : OkE c n X x k → OkE c n X y v → Pr2 c n X xs ks vs → Pr2 c n X (x :: y :: xs) (some k :: ks) (v :: vs)
def trsOf (c : Tx) (n : Nat) : List Ex → List (TE × TE)
  | x :: y :: xs => (tEx c n x, tEx c n y) :: trsOf c n xs
  | _ => []
theorem pps_ok {pos : Pos} : ∀ {xs : List Ex} {ks : List (Option Expr)} {vs : List Expr}, Pr2 c n X xs ks vs → PPs X pos ks vs (trsOf c n xs) ∧ ks.all (·.isSome) = true ∧ ks.length = vs.length
  | _, _, _, .nil => ⟨pps_nil, rfl, rfl⟩
  | _, _, _, .cons a b d => by
    obtain ⟨i1, i2, i3⟩ := pps_ok (pos := pos) d
    exact ⟨pps_cons a.pe b.pe i1, by rw [List.all_cons, i2]; rfl, by rw [List.length_cons, List.length_cons, i3]⟩
theorem tEx_ok {x : Ex} {s : Sg} {sv : L2.St} {h h1 : LH} {r : List Addr} {H : Hp} {d : D} {Q : VK} (SR : SRel c r H s sv) (hh : HRel c r h H) (e : evE c.P (callF c.P n) x s h = .ok d h1) (k : ∀ v r1 H1, RepD c r1 H1 d v → Frs H d v → HRel c r1 h1 H1 → Ext c r H r1 H1 → Q v H1) : tEx c n x sv H Q :=
  ⟨s, h, r, SR, hh, by rw [e]; exact fun v r1 H1 z hh1 ee => k v r1 H1 z.1 z.2 hh1 ee⟩
theorem fix_ok {r0 : List Addr} {H0 : Hp} {d : D} {v : V} {h h' : LH} {t : T} (ee : Ext c r0 H0 r H) (h1 : RepD c r H d v) (fr : Frs H0 d v) (hh : HRel c r h H) (e : fix d h = .ok t h') : ∃ r', RepT c r' H t v ∧ HRel c r' h' H ∧ Ext c r0 H0 r' H := by
  obtain ⟨t2, h2', r', a1, a2, a3, a4⟩ := fix_step (rep' := fun _ _ _ (a b : T × LH) => b = a) (Q := fun b _ => b = (t, h')) (f := fun t h => R.ok (t, h) h) ee h1 fr hh (by rw [e, bd_ok]; exact fun b _ _ eb _ _ => eb)
  have a5 : (t2, h2') = (t, h') := a4 (t2, h2') r' H rfl a2 a3
  cases a5
  exact ⟨r', a1, a2, a3⟩
theorem bd_inv {α β : Type} {r : R α} {f : α → LH → R β} {b : β} {h : LH} (e : r.bd f = .ok b h) : ∃ a h1, r = .ok a h1 ∧ f a h1 = .ok b h := by
  cases r with
  | ok a h1 => exact ⟨a, h1, rfl, e⟩
  | exc x y => cases e
  | bad => cases e
theorem pairs_run : ∀ {xs : List Ex} {ks : List (Option Expr)} {vs : List Expr} {s : Sg} {sv : L2.St} {h hf : LH} {r : List Addr} {H : Hp} {ts : List T} {Q : List (V × V) → Hp → Prop}, Pr2 c n X xs ks vs → SRel c r H s sv → HRel c r h H →
    evT c.P (callF c.P n) xs s h = .ok ts hf → (∀ ps r1 H1, RepTs c r1 H1 ts (ps.flatMap fun p => [p.1, p.2]) → HRel c r1 hf H1 → Ext c r H r1 H1 → Q ps H1) → tPairs (trsOf c n xs) sv H Q
  | _, _, _, s, sv, h, hf, r, H, ts, Q, .nil, SR, hh, o, k => by
    simp only [evT] at o
    cases o
    exact k [] r H rfl hh Ext.refl
  | _, _, _, s, sv, h, hf, r, H, ts, Q, .cons (x := x) (y := y) (xs := xs) a b d, SR, hh, o, k => by
    simp only [evT] at o
    obtain ⟨d1, h1, q1, o⟩ := bd_inv o
    obtain ⟨t1, h2, q2, o⟩ := bd_inv o
    obtain ⟨ts1, h3, q3, o⟩ := bd_inv o
    cases o
    obtain ⟨d2, h4, q4, q3⟩ := bd_inv q3
    obtain ⟨t2, h5, q5, q3⟩ := bd_inv q3
    obtain ⟨ts2, h6, q6, q3⟩ := bd_inv q3
    cases q3
    refine tEx_ok SR hh q1 fun v r1 H1 z fr hh1 e1 => ?_
    obtain ⟨r1', zt, hh1', e1'⟩ := fix_ok e1 z fr hh1 q2
    refine tEx_ok (SR.ext e1') hh1' q4 fun w r2 H2 z2 fr2 hh2 e2 => ?_
    obtain ⟨r2', zt2, hh2', e2'⟩ := fix_ok e2 z2 fr2 hh2 q5
    refine pairs_run d ((SR.ext e1').ext e2') hh2' q6 fun ps r3 H3 zz hh3 e3 => ?_
    exact k ((v, w) :: ps) r3 H3 ⟨v, _, rfl, RepT.ext (e2'.trans e3) _ _ zt, w, _, rfl, RepT.ext e3 _ _ zt2, zz⟩ hh3 ((e1'.trans e2').trans e3)
theorem prs_rep : ∀ {ps : List (V × V)} {ts : List T}, RepTs c r H ts (ps.flatMap fun p => [p.1, p.2]) → ((prs ts).all fun p => keyB p.1) = true → ∃ kvs : List (Key × V), ps = kvs.map (fun kv => (kV kv.1, kv.2)) ∧ RepK c r H (prs ts) kvs ∧ kvs.length = (prs ts).length
  | [], ts, h, hk => by
    cases ts with
    | nil => exact ⟨[], rfl, rfl, rfl⟩
    | cons t ts => obtain ⟨v, ws, e, _⟩ := h; cases e
  | p :: ps, ts, h, hk => by
    cases ts with
    | nil => cases (show p.1 :: _ = [] from h)
    | cons t ts =>
      obtain ⟨v, ws, e, z1, z2⟩ := h
      cases e
      cases ts with
      | nil => cases (show p.2 :: _ = [] from z2)
      | cons t2 ts =>
        obtain ⟨v, ws, e, z3, z4⟩ := z2
        cases e
        simp only [prs, List.all_cons, Bool.and_eq_true] at hk
        obtain ⟨kvs, e1, e2, e3⟩ := prs_rep z4 hk.2
        obtain ⟨q, e4, e5⟩ := key_of z1 hk.1
        refine ⟨(q, p.2) :: kvs, ?_, ⟨q, p.2, kvs, rfl, hk.1, by rw [← e4]; exact z1, z3, e2⟩, by simp [prs, e3]⟩
        rw [List.map_cons, ← e1, ← e4]
theorem prs_len : ∀ ts : List T, 2 * (prs ts).length ≤ ts.length
  | [] => by simp [prs]
  | [_] => by simp [prs]
  | _ :: _ :: ts => by
    have := prs_len ts
    simp only [prs, List.length_cons]
    omega
theorem evT_len {s : Sg} : ∀ {xs : List Ex} {h h1 : LH} {ts : List T}, evT c.P (callF c.P n) xs s h = .ok ts h1 → ts.length = xs.length
  | [], h, h1, ts, q => by simp only [evT] at q; cases q; rfl
  | x :: xs, h, h1, ts, q => by
    simp only [evT] at q
    obtain ⟨d, h2, q1, q⟩ := bd_inv q
    obtain ⟨t, h3, q2, q⟩ := bd_inv q
    obtain ⟨ts', h4, q3, q⟩ := bd_inv q
    cases q
    rw [List.length_cons, List.length_cons, evT_len q3]
theorem Pr2.len {xs : List Ex} {ks : List (Option Expr)} {vs : List Expr} (a : Pr2 c n X xs ks vs) : xs.length = 2 * ks.length := by
  induction a with
  | nil => rfl
  | cons a b d ih => simp only [List.length_cons, ih]; omega
theorem ok_dsp {k : Bool} {xs : List Ex} {ks : List (Option Expr)} {vs : List Expr} {pos : Pos} (h15 : ks.length ≤ 15) (a : Pr2 c n X xs ks vs) : OkE c n X (.dsp k xs) (.Dict ks vs pos) := by
  obtain ⟨p1, p2, p3⟩ := pps_ok (pos := pos) a
  cases ks with
  | nil =>
    cases a
    cases k with
    | true =>
      refine okE_pe (PE.imp' pe_dnewT fun sv H Q ⟨s, h, r, SR, hh, o⟩ => ?_) rfl (fun _ => rfl)
      simp only [evE, evT, bd_ok] at o
      intro p hp
      refine o (.ref p) r _ ⟨⟨p, rfl, ⟨[], upd_same, rfl⟩, hh.nin hp⟩, fun _ b eb => by cases eb; exact hp⟩ (hh.new hp) (Ext.new hp)
    | false =>
      refine okE_pe (PE.imp' pe_dnewK fun sv H Q ⟨s, h, r, SR, hh, o⟩ => ?_) rfl (fun _ => rfl)
      simp only [evE, evT, bd_ok] at o
      intro p hp
      refine o (.ref p) r _ ⟨⟨p, rfl, ⟨[], upd_same, rfl⟩, hh.nin hp⟩, fun _ b eb => by cases eb; exact hp⟩ (hh.new hp) (Ext.new hp)
  | cons k0 ks0 =>
    refine okE_pe (PE.imp' (pe_disp p1 p2 p3 (by simp) h15) fun sv H Q ⟨s, h, r, SR, hh, o⟩ => ?_) rfl (fun _ => rfl)
    simp only [evE] at o
    intro p hp
    cases q : evT c.P (callF c.P n) xs s h with
    | exc x y => rw [q] at o; exact o.elim
    | bad => rw [q] at o; exact o.elim
    | ok ts h1 =>
      rw [q, bd_ok] at o
      have np : p ∉ r := hh.nin hp
      have e0 : Ext c r H r (upd H p (.dK [])) := Ext.new hp
      refine pairs_run a (SR.ext e0) (hh.new hp) q fun ps r1 H1 zz hh1 e1 => ?_
      unfold dspD at o
      split at o
      case isFalse => exact o.elim
      rename_i hc
      obtain ⟨hc1, hc2⟩ := Bool.and_eq_true_iff.mp hc
      have hp1 : H1 p = some (.dK []) := e1.keep p _ upd_same np
      have np1 : p ∉ r1 := e1.nin upd_same np
      cases k with
      | true =>
        exfalso
        have l1 := a.len
        have l2 := evT_len q
        cases ts with
        | nil => simp at l2 l1; omega
        | cons t ts =>
          cases ts with
          | nil => simp at l2 l1; omega
          | cons t2 ts =>
            simp [prs] at hc2
      | false =>
        have hc3 : ((prs ts).all fun p => keyB p.1) = true := by
          rw [List.all_eq_true] at hc2 ⊢
          exact fun x hx => by simpa using hc2 x hx
        obtain ⟨kvs, e2, e3, e4⟩ := prs_rep zz hc3
        refine ⟨hp1, kvs, e2, ?_, ?_⟩
        · have := of_decide_eq_true hc1
          have := prs_len ts
          omega
        · have w := ExtW.set (c := c) (r := r1) (o' := .dK (mergeK [] kvs)) hp1 True.intro
          have e01 : Ext c r H r1 (upd H1 p (.dK (mergeK [] kvs))) := (e0.trans e1).set hp1 True.intro hp
          refine o (.ref p) r1 _ ⟨⟨p, rfl, ⟨_, upd_same, RepK.extW w _ _ (RepK.merge e3 rfl)⟩, np1⟩, fun _ b eb => by cases eb; exact hp⟩ (hh1.set hp1 True.intro np1) e01
end
end Rm
set_option Elab.async false
set_option linter.all false
set_option autoImplicit false
set_option maxRecDepth 100000
/-! Soundness 17: expressions, all together. -/
namespace Rm
open PySem PySem.Spec PyProof.Rows L2
section
variable {c : Tx} {n : Nat} {N : List Str}
mutual
theorem mG_own {own : List Nat} {sc : Scope} : ∀ (t : Tg) (e : Expr), mG N own sc t e = true → ∀ i ∈ tgIs t, i ∈ own
  | .n i, e, m => by
    intro j hj
    simp only [tgIs, List.mem_singleton] at hj
    subst hj
    cases e with
    | Name x p =>
      simp only [mG, Bool.and_eq_true] at m
      simpa using m.2
    | _ => simp [mG] at m
  | .t ts, e, m => by
    cases e with
    | Tuple es k p => exact mGs_own ts es (by simpa [mG] using m)
    | _ => simp [mG] at m
theorem mGs_own {own : List Nat} {sc : Scope} : ∀ (ts : List Tg) (es : List Expr), mGs N own sc ts es = true → ∀ i ∈ tgsIs ts, i ∈ own
  | [], es, m => by simp [tgsIs]
  | t :: ts, es, m => by
    cases es with
    | nil => simp [mGs] at m
    | cons e es =>
      simp only [mGs, Bool.and_eq_true] at m
      intro i hi
      rcases List.mem_append.mp (show i ∈ tgIs t ++ tgsIs ts from hi) with h | h
      · exact mG_own t e m.1 i h
      · exact mGs_own ts es m.2 i h
end
theorem okE_bo {X : Cx} {x : Ex} {b : BoolOp} {vs : List Expr} {pos : Pos} (h : PE X (.BoolOp b vs pos) (tEx c n x) ∧ PW X (.BoolOp b vs pos) (tTx c n x)) : OkE c n X x (.BoolOp b vs pos) := ⟨h.1, h.2.pt, rfl⟩
/-- an expression that is walked: a name by its slot -/
theorem okW_any {X : Cx} {sc : Scope} (C : Cm c n N sc X) (x : Ex) (e : Expr) (m : mE c.nm N x sc e = true) (h : OkE c n X x e) : ∃ te, OkW c n X x e te := by
  by_cases hx : ∃ i, x = .v i
  · obtain ⟨i, rfl⟩ := hx
    cases e with
    | Name y p => exact ⟨_, okW_v C (by simpa only [mE] using m)⟩
    | _ => simp [mE] at m
  · exact ⟨_, okW_e h fun i e => hx ⟨i, e⟩⟩
theorem ne_of_isEmpty {es : List Expr} (h : (!es.isEmpty) = true) : es ≠ [] := by
  cases es with
  | nil => cases h
  | cons a b => simp
theorem ok_me {X : Cx} {sc : Scope} (C : Cm c n N sc X) {mm : Me} {o : Ex} {as : List Ex} {x : Expr} {vs : List Expr} {ap cp : Pos} (hl : (ap.endLine == cp.line) = true) (hr : recvB x = true) (ho : OkE c n X o x) (ha : All2 c n X as vs) (hm : meAr mm vs.length = true) :
    OkE c n X (.me mm o as) (.Call (.Attribute x (meNm mm) ap) vs [] cp) := by
  cases ha with
  | nil => cases mm <;> cases hm
  | cons a1 a2 =>
    cases a2 with
    | nil =>
      cases mm with
      | join => exact ok_join C hl hr ho a1
      | split => exact ok_split C hl hr ho a1
      | index => exact ok_index C hl hr ho a1
      | _ => cases hm
    | cons b1 b2 =>
      cases b2 with
      | nil =>
        cases mm with
        | get => exact ok_get C hl hr ho a1 b1
        | _ => cases hm
      | cons c1 c2 => cases mm <;> simp [meAr] at hm
theorem sb_sitm {X : Cx} {sc : Scope} (C : Cm c n N sc X) {a : Ex} {e : Expr} (H : ∀ e', mE c.nm N a sc e' = true → OkE c n X a e') (m : mE c.nm N (.bix .sorted (.itm a)) sc e = true) : OkE c n X (.bix .sorted (.itm a)) e := by
  cases e with
  | Call fn vs ks pos =>
    cases fn with
    | Name x q =>
      cases ks with
      | cons _ _ => simp [mE] at m
      | nil =>
        cases vs with
        | nil => simp [mE] at m
        | cons v1 vs =>
          cases vs with
          | cons _ _ => simp [mE] at m
          | nil =>
            cases v1 with
            | Call fn2 vs2 ks2 cp =>
              cases fn2 with
              | Attribute e2 at2 ap =>
                cases ks2 with
                | cons _ _ => simp [mE] at m
                | nil =>
                  cases vs2 with
                  | cons _ _ => simp [mE] at m
                  | nil =>
                    simp only [mE, Bool.and_eq_true] at m
                    obtain ⟨⟨⟨⟨⟨m1, m2⟩, m3⟩, m4⟩, m5⟩, m6⟩ := m
                    have m1 := of_decide_eq_true m1
                    have m3 := of_decide_eq_true m3
                    subst m1 m3
                    exact ok_sitm C m2 m4 m5 (H _ m6)
              | _ => simp [mE] at m
            | _ => simp [mE] at m
    | _ => simp [mE] at m
  | _ => simp [mE] at m
theorem sb_litm {X : Cx} {sc : Scope} (C : Cm c n N sc X) {a : Ex} {e : Expr} (H : ∀ e', mE c.nm N a sc e' = true → OkE c n X a e') (m : mE c.nm N (.bix .list (.itm a)) sc e = true) : OkE c n X (.bix .list (.itm a)) e := by
  cases e with
  | Call fn vs ks pos =>
    cases fn with
    | Name x q =>
      cases ks with
      | cons _ _ => simp [mE] at m
      | nil =>
        cases vs with
        | nil => simp [mE] at m
        | cons v1 vs =>
          cases vs with
          | cons _ _ => simp [mE] at m
          | nil =>
            cases v1 with
            | Call fn2 vs2 ks2 cp =>
              cases fn2 with
              | Attribute e2 at2 ap =>
                cases ks2 with
                | cons _ _ => simp [mE] at m
                | nil =>
                  cases vs2 with
                  | cons _ _ => simp [mE] at m
                  | nil =>
                    simp only [mE, Bool.and_eq_true] at m
                    obtain ⟨⟨⟨⟨⟨m1, m2⟩, m3⟩, m4⟩, m5⟩, m6⟩ := m
                    have m1 := of_decide_eq_true m1
                    have m3 := of_decide_eq_true m3
                    subst m1 m3
                    exact ok_litm C m2 m4 m5 (H _ m6)
              | _ => simp [mE] at m
            | _ => simp [mE] at m
    | _ => simp [mE] at m
  | _ => simp [mE] at m
theorem sb_lvls {X : Cx} {sc : Scope} (C : Cm c n N sc X) {a : Ex} {e : Expr} (H : ∀ e', mE c.nm N a sc e' = true → OkE c n X a e') (m : mE c.nm N (.bix .list (.vls a)) sc e = true) : OkE c n X (.bix .list (.vls a)) e := by
  cases e with
  | Call fn vs ks pos =>
    cases fn with
    | Name x q =>
      cases ks with
      | cons _ _ => simp [mE] at m
      | nil =>
        cases vs with
        | nil => simp [mE] at m
        | cons v1 vs =>
          cases vs with
          | cons _ _ => simp [mE] at m
          | nil =>
            cases v1 with
            | Call fn2 vs2 ks2 cp =>
              cases fn2 with
              | Attribute e2 at2 ap =>
                cases ks2 with
                | cons _ _ => simp [mE] at m
                | nil =>
                  cases vs2 with
                  | cons _ _ => simp [mE] at m
                  | nil =>
                    simp only [mE, Bool.and_eq_true] at m
                    obtain ⟨⟨⟨⟨⟨m1, m2⟩, m3⟩, m4⟩, m5⟩, m6⟩ := m
                    have m1 := of_decide_eq_true m1
                    have m3 := of_decide_eq_true m3
                    subst m1 m3
                    exact ok_lvls C m2 m4 m5 (H _ m6)
              | _ => simp [mE] at m
            | _ => simp [mE] at m
    | _ => simp [mE] at m
  | _ => simp [mE] at m
theorem sb_lzip {X : Cx} {sc : Scope} (C : Cm c n N sc X) {a b : Ex} {e : Expr} (H : ∀ e', mE c.nm N a sc e' = true → OkE c n X a e') (H' : ∀ e', mE c.nm N b sc e' = true → OkE c n X b e') (m : mE c.nm N (.bix .list (.zp [a, b])) sc e = true) : OkE c n X (.bix .list (.zp [a, b])) e := by
  cases e with
  | Call fn vs ks pos =>
    cases fn with
    | Name x q =>
      cases ks with
      | cons _ _ => simp [mE] at m
      | nil =>
        cases vs with
        | nil => simp [mE] at m
        | cons v1 vs =>
          cases vs with
          | cons _ _ => simp [mE] at m
          | nil =>
            cases v1 with
            | Call fn2 vs2 ks2 p2 =>
              cases fn2 with
              | Name y q2 =>
                cases ks2 with
                | cons _ _ => simp [mE] at m
                | nil =>
                  cases vs2 with
                  | nil => simp [mE] at m
                  | cons w1 ws =>
                    cases ws with
                    | nil => simp [mE] at m
                    | cons w2 ws =>
                      cases ws with
                      | cons _ _ => simp [mE] at m
                      | nil =>
                        simp only [mE, Bool.and_eq_true] at m
                        obtain ⟨⟨⟨⟨⟨m1, m2⟩, m3⟩, m4⟩, m5⟩, m6⟩ := m
                        have m1 := of_decide_eq_true m1
                        have m3 := of_decide_eq_true m3
                        subst m1 m3
                        have h := H _ m5
                        have h' := H' _ m6
                        obtain ⟨te, hw⟩ := okW_any C a w1 m5 h
                        obtain ⟨te', hw'⟩ := okW_any C b w2 m6 h'
                        exact ok_lzip C m2 m4 h.hd h'.hd hw hw'
              | _ => simp [mE] at m
            | _ => simp [mE] at m
    | _ => simp [mE] at m
  | _ => simp [mE] at m
theorem sb_lrng {X : Cx} {sc : Scope} (C : Cm c n N sc X) {a : Ex} {e : Expr} (H : ∀ e', mE c.nm N a sc e' = true → OkE c n X a e') (m : mE c.nm N (.bix .list (.rng [a])) sc e = true) : OkE c n X (.bix .list (.rng [a])) e := by
  cases e with
  | Call fn vs ks pos =>
    cases fn with
    | Name x q =>
      cases ks with
      | cons _ _ => simp [mE] at m
      | nil =>
        cases vs with
        | nil => simp [mE] at m
        | cons v1 vs =>
          cases vs with
          | cons _ _ => simp [mE] at m
          | nil =>
            cases v1 with
            | Call fn2 vs2 ks2 p2 =>
              cases fn2 with
              | Name y q2 =>
                cases ks2 with
                | cons _ _ => simp [mE] at m
                | nil =>
                  cases vs2 with
                  | nil => simp [mE] at m
                  | cons w1 ws =>
                    cases ws with
                    | cons _ _ => simp [mE] at m
                    | nil =>
                      simp only [mE, Bool.and_eq_true] at m
                      obtain ⟨⟨⟨⟨m1, m2⟩, m3⟩, m4⟩, m5⟩ := m
                      have m1 := of_decide_eq_true m1
                      have m3 := of_decide_eq_true m3
                      subst m1 m3
                      exact ok_lrng C m2 m4 (H _ m5)
              | _ => simp [mE] at m
            | _ => simp [mE] at m
    | _ => simp [mE] at m
  | _ => simp [mE] at m
mutual
theorem sE : ∀ (x : Ex) (sc : Scope) (e : Expr) (X : Cx), Cm c n N sc X → mE c.nm N x sc e = true → OkE c n X x e
  | .c t, sc, e, X, C, m => by
    cases e with
    | Constant k j p =>
      exact ok_c (by simpa only [mE] using m)
    | _ => simp [mE] at m
  | .v i, sc, e, X, C, m => by
    cases e with
    | Name x p =>
      exact ok_v C (by simpa only [mE] using m)
    | _ => simp [mE] at m
  | .g k, sc, e, X, C, m => by
    cases e with
    | Name x p =>
      exact ok_g C (by simpa only [mE] using m)
    | _ => simp [mE] at m
  | .fr f, sc, e, X, C, m => by
    cases e with
    | Name x p =>
      exact ok_fr C (by simpa only [mE] using m)
    | _ => simp [mE] at m
  | .gin neg a k, sc, e, X, C, m => by
    cases e with
    | Compare l os rs p =>
      cases os with
      | nil => simp [mE] at m
      | cons o0 o0' =>
        cases o0' with
        | cons _ _ => simp [mE] at m
        | nil =>
          cases rs with
          | nil => simp [mE] at m
          | cons r0 r0' =>
            cases r0' with
            | cons _ _ => simp [mE] at m
            | nil =>
              cases r0 with
              | Name x q =>
                simp only [mE, Bool.and_eq_true] at m
                obtain ⟨⟨⟨m1, m2⟩, m3⟩, m4⟩ := m
                have m1 := of_decide_eq_true m1
                subst m1
                exact ok_gin C (by simp only [m2, m3, Bool.and_self]) (sE a sc l X C m4)
              | _ => simp [mE] at m
    | _ => simp [mE] at m
  | .gix k a, sc, e, X, C, m => by
    cases e with
    | Subscript v y p =>
      cases v with
      | Name x q =>
        simp only [mE, Bool.and_eq_true] at m
        obtain ⟨⟨m2, m3⟩, m4⟩ := m
        exact ok_gix C (by simp only [m2, m3, Bool.and_self]) (sE a sc y X C m4)
      | _ => simp [mE] at m
    | _ => simp [mE] at m
  | .bin op a b, sc, e, X, C, m => by
    cases e with
    | BinOp l o r p =>
      simp only [mE, Bool.and_eq_true] at m
      obtain ⟨⟨m1, m2⟩, m3⟩ := m
      have m1 := of_decide_eq_true m1
      subst m1
      exact ok_bin C (sE a sc l X C m2) (sE b sc r X C m3)
    | _ => simp [mE] at m
  | .neg a, sc, e, X, C, m => by
    cases e with
    | UnaryOp o x p =>
      cases o with
      | USub =>
        simp only [mE] at m
        exact ok_neg (sE a sc x X C m)
      | _ => simp [mE] at m
    | _ => simp [mE] at m
  | .not a, sc, e, X, C, m => by
    cases e with
    | UnaryOp o x p =>
      cases o with
      | Not =>
        simp only [mE] at m
        exact ok_not (sE a sc x X C m)
      | _ => simp [mE] at m
    | _ => simp [mE] at m
  | .cmp op a b, sc, e, X, C, m => by
    cases e with
    | Compare l os rs p =>
      cases os with
      | nil => simp [mE] at m
      | cons o0 o0' =>
        cases o0' with
        | cons _ _ => simp [mE] at m
        | nil =>
          cases rs with
          | nil => simp [mE] at m
          | cons r0 r0' =>
            cases r0' with
            | cons _ _ => simp [mE] at m
            | nil =>
              simp only [mE, Bool.and_eq_true] at m
              obtain ⟨⟨m1, m2⟩, m3⟩ := m
              have m1 := of_decide_eq_true m1
              subst m1
              exact ok_cmp C (sE a sc l X C m2) (sE b sc r0 X C m3)
    | _ => simp [mE] at m
  | .chn p q a b d, sc, e, X, C, m => by
    cases e with
    | Compare l os rs ps =>
      cases os with
      | nil => simp [mE] at m
      | cons o1 o' =>
        cases o' with
        | nil => simp [mE] at m
        | cons o2 o'' =>
          cases o'' with
          | cons _ _ => simp [mE] at m
          | nil =>
            cases rs with
            | nil => simp [mE] at m
            | cons r1 r' =>
              cases r' with
              | nil => simp [mE] at m
              | cons r2 r'' =>
                cases r'' with
                | cons _ _ => simp [mE] at m
                | nil =>
                  simp only [mE, Bool.and_eq_true] at m
                  obtain ⟨⟨⟨⟨m1, m2⟩, m3⟩, m4⟩, m5⟩ := m
                  have m1 := of_decide_eq_true m1
                  have m2 := of_decide_eq_true m2
                  subst m1 m2
                  exact ok_chn C (sE a sc l X C m3) (sE b sc r1 X C m4) (sE d sc r2 X C m5)
    | _ => simp [mE] at m
  | .and es, sc, e, X, C, m => by
    cases e with
    | BoolOp o vs p =>
      cases o with
      | And =>
        simp only [mE, Bool.and_eq_true] at m
        exact okE_bo (ok_and (sEs es sc vs X C m.2) (ne_of_isEmpty m.1))
      | _ => simp [mE] at m
    | _ => simp [mE] at m
  | .or es, sc, e, X, C, m => by
    cases e with
    | BoolOp o vs p =>
      cases o with
      | Or =>
        simp only [mE, Bool.and_eq_true] at m
        exact okE_bo (ok_or (sEs es sc vs X C m.2) (ne_of_isEmpty m.1))
      | _ => simp [mE] at m
    | _ => simp [mE] at m
  | .ite d a b, sc, e, X, C, m => by
    cases e with
    | IfExp t x y p =>
      simp only [mE, Bool.and_eq_true] at m
      exact ok_ite (sE d sc t X C m.1.1) (sE a sc x X C m.1.2) (sE b sc y X C m.2)
    | _ => simp [mE] at m
  | .tup es, sc, e, X, C, m => by
    cases e with
    | Tuple vs k p =>
      simp only [mE] at m
      exact ok_tup (sEs es sc vs X C m)
    | _ => simp [mE] at m
  | .lst es, sc, e, X, C, m => by
    cases e with
    | List vs p =>
      simp only [mE] at m
      exact ok_lst (sEs es sc vs X C m)
    | _ => simp [mE] at m
  | .dsp k es, sc, e, X, C, m => by
    cases e with
    | Dict ks vs p =>
      simp only [mE, Bool.and_eq_true] at m
      exact ok_dsp (of_decide_eq_true m.1) (sP es sc ks vs X C m.2)
    | _ => simp [mE] at m
  | .ix a i, sc, e, X, C, m => by
    cases e with
    | Subscript v y p =>
      simp only [mE, Bool.and_eq_true] at m
      exact ok_ix C (sE a sc v X C m.1) (sE i sc y X C m.2)
    | _ => simp [mE] at m
  | .sl a lo hi, sc, e, X, C, m => by
    cases e with
    | Subscript v y p =>
      cases y with
      | Slice l u st q =>
        cases st with
        | some _ => simp [mE] at m
        | none =>
          simp only [mE, Bool.and_eq_true] at m
          exact ok_sl C (sE a sc v X C m.1.1) (sO lo sc l X C m.1.2) (sO hi sc u X C m.2)
      | _ => simp [mE] at m
    | _ => simp [mE] at m
  | .lc elt tg it cnd own, sc, e, X, C, m => by
    cases e with
    | ListComp x gens scope p =>
      cases gens with
      | nil => simp [mE] at m
      | cons g0 g0' =>
        cases g0' with
        | cons _ _ => simp [mE] at m
        | nil =>
          obtain ⟨t, i, ifs, k⟩ := g0
          simp only [mE, Bool.and_eq_true] at m
          obtain ⟨⟨⟨⟨⟨m1, m2⟩, m3⟩, m4⟩, m5⟩, m6⟩ := m
          have m1 := of_decide_eq_true m1
          subst m1
          obtain ⟨i1, i2⟩ := sI it sc t i X C m4
          exact ok_lc C m2 m3 (mG_own tg t m3) i1 i2 fun Y CY => ⟨sEs cnd _ ifs Y CY m5, sE elt _ x Y CY m6⟩
    | _ => simp [mE] at m
  | .call f as, sc, e, X, C, m => by
    cases e with
    | Call fn vs ks p =>
      cases fn with
      | Name x q =>
        cases ks with
        | cons _ _ => simp [mE] at m
        | nil =>
          simp only [mE, Bool.and_eq_true] at m
          exact ok_call C (by simp only [m.1.1, m.1.2, Bool.and_self]) (sEs as sc vs X C m.2)
      | _ => simp [mE] at m
    | _ => simp [mE] at m
  | .calv i as, sc, e, X, C, m => by
    cases e with
    | Call fn vs ks p =>
      cases fn with
      | Name x q =>
        cases ks with
        | cons _ _ => simp [mE] at m
        | nil =>
          simp only [mE, Bool.and_eq_true] at m
          obtain ⟨⟨⟨m1, m2⟩, m3⟩, m4⟩ := m
          exact ok_calv C (by simp only [m1, m2, Bool.and_self]) (ne_of_isEmpty m3) (sEs as sc vs X C m4)
      | _ => simp [mE] at m
    | _ => simp [mE] at m
  | .bi b as, sc, e, X, C, m => by
    cases e with
    | Call fn vs ks p =>
      cases fn with
      | Name x q =>
        cases ks with
        | cons _ _ => simp [mE] at m
        | nil =>
          simp only [mE, Bool.and_eq_true] at m
          obtain ⟨⟨⟨⟨m1, m2⟩, m3⟩, m4⟩, m5⟩ := m
          have m2 := of_decide_eq_true m2
          subst m2
          exact ok_bi C m1 m3 (ne_of_isEmpty m4) (sEs as sc vs X C m5)
      | _ => simp [mE] at m
    | _ => simp [mE] at m
  | .me mm o as, sc, e, X, C, m => by
    cases e with
    | Call fn vs ks p =>
      cases fn with
      | Attribute x at_ ap =>
        cases ks with
        | cons _ _ => simp [mE] at m
        | nil =>
          simp only [mE, Bool.and_eq_true] at m
          obtain ⟨⟨⟨⟨⟨m1, m2⟩, m3⟩, m4⟩, m5⟩, m6⟩ := m
          have m1 := of_decide_eq_true m1
          subst m1
          have ho := sE o sc x X C m4
          have ha := sEs as sc vs X C m5
          exact ok_me C m2 m3 ho ha m6
      | _ => simp [mE] at m
    | _ => simp [mE] at m
  | .isi a ts, sc, e, X, C, m => by
    cases e with
    | Call fn vs ks p =>
      cases fn with
      | Name x q =>
        cases ks with
        | cons _ _ => simp [mE] at m
        | nil =>
          cases vs with
          | nil => simp [mE] at m
          | cons v1 vs =>
            cases vs with
            | nil => simp [mE] at m
            | cons v2 vs =>
              cases vs with
              | cons _ _ => cases v2 <;> simp [mE] at m
              | nil =>
                cases v2 with
                | Name y q2 =>
                  simp only [mE, Bool.and_eq_true] at m
                  obtain ⟨⟨⟨⟨m1, m2⟩, m3⟩, m4⟩, m5⟩ := m
                  have m1 := of_decide_eq_true m1
                  subst m1
                  cases ts with
                  | nil => cases m4
                  | cons t ts =>
                    cases ts with
                    | cons _ _ => cases m4
                    | nil =>
                      have m4 := of_decide_eq_true m4
                      subst m4
                      exact ok_isi C m2 m3 (sE a sc v1 X C m5)
                | _ => simp [mE] at m
      | _ => simp [mE] at m
    | _ => simp [mE] at m
  | .bix b it, sc, e, X, C, m => by
    cases b with
    | sorted =>
      cases it with
      | itm a => exact sb_sitm C (fun e' m' => sE a sc e' X C m') m
      | _ => cases e <;> simp [mE] at m
    | list =>
      cases it with
      | itm a => exact sb_litm C (fun e' m' => sE a sc e' X C m') m
      | vls a => exact sb_lvls C (fun e' m' => sE a sc e' X C m') m
      | zp as =>
        cases as with
        | nil => cases e <;> simp [mE] at m
        | cons a as =>
          cases as with
          | nil => cases e <;> simp [mE] at m
          | cons b as =>
            cases as with
            | cons _ _ => cases e <;> simp [mE] at m
            | nil => exact sb_lzip C (fun e' m' => sE a sc e' X C m') (fun e' m' => sE b sc e' X C m') m
      | rng as =>
        cases as with
        | nil => cases e <;> simp [mE] at m
        | cons a as =>
          cases as with
          | cons _ _ => cases e <;> simp [mE] at m
          | nil => exact sb_lrng C (fun e' m' => sE a sc e' X C m') m
      | _ => cases e <;> simp [mE] at m
    | _ => cases e <;> simp [mE] at m
  | .fx a, sc, e, X, C, m => ok_fx (sE a sc e X C (by unfold mE at m; exact (Bool.and_eq_true_iff.mp m).2))
  | .sp k as, sc, e, X, C, m => by
    cases k with
    | sset =>
      cases as with
      | nil => simp [mE] at m
      | cons a as =>
        cases as with
        | cons _ _ => simp [mE] at m
        | nil =>
          cases e with
          | Call fn vs ks p =>
            cases fn with
            | Name x q =>
              cases ks with
              | cons _ _ => simp [mE] at m
              | nil =>
                cases vs with
                | nil => simp [mE] at m
                | cons v1 vs =>
                  cases vs with
                  | cons _ _ => simp [mE] at m
                  | nil =>
                    cases v1 with
                    | Call fn2 vs2 ks2 p2 =>
                      cases fn2 with
                      | Name y q2 =>
                        cases ks2 with
                        | cons _ _ => simp [mE] at m
                        | nil =>
                          cases vs2 with
                          | nil => simp [mE] at m
                          | cons w1 ws =>
                            cases ws with
                            | cons _ _ => simp [mE] at m
                            | nil =>
                              simp only [mE, Bool.and_eq_true] at m
                              obtain ⟨⟨⟨⟨m1, m2⟩, m3⟩, m4⟩, m5⟩ := m
                              have m1 := of_decide_eq_true m1
                              have m3 := of_decide_eq_true m3
                              subst m1 m3
                              exact ok_sset C m2 m4 (sE a sc w1 X C m5)
                      | _ => simp [mE] at m
                    | _ => simp [mE] at m
            | _ => simp [mE] at m
          | _ => simp [mE] at m
    | rev =>
      cases as with
      | nil => simp [mE] at m
      | cons a as =>
        cases as with
        | cons _ _ => simp [mE] at m
        | nil =>
          cases e with
          | Subscript v y p =>
            cases y with
            | Slice l u st q =>
              cases l with
              | some _ => simp [mE] at m
              | none =>
                cases u with
                | some _ => simp [mE] at m
                | none =>
                  cases st with
                  | none => simp [mE] at m
                  | some st =>
                    cases st with
                    | UnaryOp o w p3 =>
                      cases o with
                      | USub =>
                        cases w with
                        | Constant k j p4 =>
                          cases k with
                          | int i =>
                            simp only [mE, Bool.and_eq_true] at m
                            have hi := of_decide_eq_true m.1
                            subst hi
                            exact ok_rev C (sE a sc v X C m.2)
                          | _ => simp [mE] at m
                        | _ => simp [mE] at m
                      | _ => simp [mE] at m
                    | _ => simp [mE] at m
            | _ => simp [mE] at m
          | _ => simp [mE] at m
theorem sEs : ∀ (xs : List Ex) (sc : Scope) (es : List Expr) (X : Cx), Cm c n N sc X → mEs c.nm N xs sc es = true → All2 c n X xs es
  | [], sc, es, X, C, m => by
    cases es with
    | nil => exact .nil
    | cons _ _ => simp [mEs] at m
  | x :: xs, sc, es, X, C, m => by
    cases es with
    | nil => simp [mEs] at m
    | cons e es =>
      simp only [mEs, Bool.and_eq_true] at m
      exact .cons (sE x sc e X C m.1) (sEs xs sc es X C m.2)
theorem sP : ∀ (xs : List Ex) (sc : Scope) (ks : List (Option Expr)) (vs : List Expr) (X : Cx), Cm c n N sc X → mP c.nm N xs sc ks vs = true → Pr2 c n X xs ks vs
  | [], sc, ks, vs, X, C, m => by
    cases ks with
    | cons _ _ => simp [mP] at m
    | nil =>
      cases vs with
      | cons _ _ => simp [mP] at m
      | nil => exact .nil
  | [x], sc, ks, vs, X, C, m => by simp [mP] at m
  | x :: y :: xs, sc, ks, vs, X, C, m => by
    cases ks with
    | nil => simp [mP] at m
    | cons k ks =>
      cases k with
      | none => simp [mP] at m
      | some k =>
        cases vs with
        | nil => simp [mP] at m
        | cons v vs =>
          simp only [mP, Bool.and_eq_true] at m
          exact .cons (sE x sc k X C m.1.1) (sE y sc v X C m.1.2) (sP xs sc ks vs X C m.2)
theorem sO : ∀ (x : Option Ex) (sc : Scope) (e : Option Expr) (X : Cx), Cm c n N sc X → mO c.nm N x sc e = true → Op2 c n X x e
  | none, sc, e, X, C, m => by
    cases e with
    | none => exact .none
    | some _ => simp [mO] at m
  | some x, sc, e, X, C, m => by
    cases e with
    | none => simp [mO] at m
    | some e => exact .some (sE x sc e X C (by simpa only [mO] using m))
theorem sI : ∀ (it : Ix) (sc : Scope) (tg e : Expr) (X : Cx), Cm c n N sc X → mI c.nm N it sc tg e = true → PI X tg e (tIx c n it) ∧ okHead e = true
  | .e a, sc, tg, e, X, C, m => by
    simp only [mI] at m
    have h := sE a sc e X C m
    obtain ⟨te, hw⟩ := okW_any C a e m h
    exact ⟨ok_Ie C hw, h.hd⟩
  | .rng as, sc, tg, e, X, C, m => by
    cases e with
    | Call fn vs ks p =>
      cases fn with
      | Name x q =>
        cases ks with
        | cons _ _ => simp [mI] at m
        | nil =>
          simp only [mI, Bool.and_eq_true] at m
          obtain ⟨⟨⟨m1, m2⟩, m3⟩, m4⟩ := m
          have m1 := of_decide_eq_true m1
          subst m1
          exact ⟨ok_Irng C m2 (sEs as sc vs X C m4), rfl⟩
      | _ => simp [mI] at m
    | _ => simp [mI] at m
  | .enm a, sc, tg, e, X, C, m => by
    cases tg with
    | Tuple es k tp =>
      cases e with
      | Call fn vs ks p =>
        cases fn with
        | Name x q =>
          cases vs with
          | nil => simp [mI] at m
          | cons v vs =>
            cases vs with
            | cons _ _ => simp [mI] at m
            | nil =>
              cases ks with
              | cons _ _ => simp [mI] at m
              | nil =>
                simp only [mI, Bool.and_eq_true] at m
                obtain ⟨⟨m1, m2⟩, m3⟩ := m
                have m1 := of_decide_eq_true m1
                subst m1
                have h := sE a sc v X C m3
                obtain ⟨te, hw⟩ := okW_any C a v m3 h
                exact ⟨ok_Ienm C m2 h.hd hw, rfl⟩
        | _ => simp [mI] at m
      | _ => simp [mI] at m
    | _ => simp [mI] at m
  | .zp [], sc, tg, e, X, C, m => by cases tg <;> cases e <;> simp [mI] at m
  | .zp [a], sc, tg, e, X, C, m => by cases tg <;> cases e <;> simp [mI] at m
  | .zp (a :: b :: d :: r), sc, tg, e, X, C, m => by cases tg <;> cases e <;> simp [mI] at m
  | .zp [a, b], sc, tg, e, X, C, m => by
    cases tg with
    | Tuple es k tp =>
      cases e with
      | Call fn vs ks p =>
        cases fn with
        | Name x q =>
          cases vs with
          | nil => simp [mI] at m
          | cons v vs =>
            cases vs with
            | nil => simp [mI] at m
            | cons v' vs =>
              cases vs with
              | cons _ _ => simp [mI] at m
              | nil =>
                cases ks with
                | cons _ _ => simp [mI] at m
                | nil =>
                  simp only [mI, Bool.and_eq_true] at m
                  obtain ⟨⟨⟨m1, m2⟩, m3⟩, m4⟩ := m
                  have m1 := of_decide_eq_true m1
                  subst m1
                  have h := sE a sc v X C m3
                  have h' := sE b sc v' X C m4
                  obtain ⟨te, hw⟩ := okW_any C a v m3 h
                  obtain ⟨te', hw'⟩ := okW_any C b v' m4 h'
                  exact ⟨ok_Izp C m2 h.hd h'.hd hw hw', rfl⟩
        | _ => simp [mI] at m
      | _ => simp [mI] at m
    | Name nn tp =>
      cases e with
      | Call fn vs ks p =>
        cases fn with
        | Name x q =>
          cases vs with
          | nil => simp [mI] at m
          | cons v vs =>
            cases vs with
            | nil => simp [mI] at m
            | cons v' vs =>
              cases vs with
              | cons _ _ => simp [mI] at m
              | nil =>
                cases ks with
                | cons _ _ => simp [mI] at m
                | nil =>
                  simp only [mI, Bool.and_eq_true] at m
                  obtain ⟨⟨⟨m1, m2⟩, m3⟩, m4⟩ := m
                  have m1 := of_decide_eq_true m1
                  subst m1
                  have h := sE a sc v X C m3
                  have h' := sE b sc v' X C m4
                  obtain ⟨te, hw⟩ := okW_any C a v m3 h
                  obtain ⟨te', hw'⟩ := okW_any C b v' m4 h'
                  exact ⟨ok_IzpN C m2 h.hd h'.hd hw hw', rfl⟩
        | _ => simp [mI] at m
      | _ => simp [mI] at m
    | _ => simp [mI] at m
  | .itm a, sc, tg, e, X, C, m => by cases tg <;> cases e <;> simp [mI] at m
  | .vls a, sc, tg, e, X, C, m => by cases tg <;> cases e <;> simp [mI] at m
end
end
end Rm
set_option Elab.async false
set_option linter.all false
set_option autoImplicit false
set_option maxRecDepth 100000
/-! Soundness 18: the state of a body. -/
namespace Rm
open PySem PySem.Spec PyProof.Rows L2
def lsty : D → Bool
  | .s _ => false | _ => true
/-- what stood at a body's start, and what of it may have changed: W -/
structure Bas where
  W : Addr → Prop
  r0 : List Addr
  H0 : Hp
  S0 : Sg
  V0 : L2.St
/-- a body's state -/
structure StI (c : Tx) (B : Bas) (r : List Addr) (h : LH) (H : Hp) (s : Sg) (sv : L2.St) : Prop where
  hh : HRel c r h H
  ex : ExtW c B.W B.r0 B.H0 r H
  sr : SRel c r H s sv
  own : ∀ (i : Nat) (d : D) (a : Addr), s[i]? = some (some d) → isOwn d = true → sv[i]? = some (some (.ref a)) → B.W a ∨ B.H0 a = none
  inj : ∀ (i j : Nat) (d d' : D) (a : Addr), s[i]? = some (some d) → isOwn d = true → sv[i]? = some (some (.ref a)) → s[j]? = some (some d') → lsty d' = true → sv[j]? = some (some (.ref a)) → i = j
  bor : ∀ (i : Nat) (d : D), s[i]? = some (some d) → lsty d = true → isOwn d = false → sv[i]? = B.V0[i]? ∧ ∃ d0, B.S0[i]? = some (some d0) ∧ lsty d0 = true ∧ isOwn d0 = false
def OutF (c : Tx) (B : Bas) (f : F) (E : Ends) : Prop := match f with
  | .nx s' h' => ∀ sv' r' H', StI c B r' h' H' s' sv' → E.nx sv' H'
  | .ret d h' => ∀ v r' H', RepD c r' H' d v → (isOwn d = true → ∀ a, v = .ref a → B.W a ∨ B.H0 a = none) → HRel c r' h' H' → ExtW c B.W B.r0 B.H0 r' H' → E.rt v H'
  | .brk s' h' => ∀ sv' r' H', StI c B r' h' H' s' sv' → E.bk sv' H'
  | .ct s' h' => ∀ sv' r' H', StI c B r' h' H' s' sv' → E.ct sv' H'
  | _ => False
def tSx (c : Tx) (n : Nat) (x : Sx) : TS := fun E sv H => ∃ B r h s, StI c B r h H s sv ∧ OutF c B (evS c.P (callF c.P n) x s h) E
def tBx (c : Tx) (n : Nat) (xs : List Sx) : TS := fun E sv H => ∃ B r h s, StI c B r h H s sv ∧ OutF c B (evB c.P (callF c.P n) xs s h) E
section
variable {c : Tx} {n : Nat} {X : Cx} {N : List Str} {sc : Scope} {B : Bas} {W W1 : Addr → Prop} {r0 r r1 rL : List Addr} {H0 H H1 HL : Hp} {h h1 : LH} {s s' : Sg} {sv sv' : L2.St}
theorem ExtW.comp (a : ExtW c W r0 H0 rL HL) (b : ExtW c W1 rL HL r H) (w : ∀ x, W1 x → W x ∨ H0 x = none) : ExtW c W r0 H0 r H := by
  obtain ⟨q, e, n⟩ := a.more
  obtain ⟨q', e', n'⟩ := b.more
  refine ⟨⟨q ++ q', by rw [e', e, List.append_assoc], fun x hx => ?_⟩, fun x o h hx hw => ?_, fun x vs h => b.tup x vs (a.tup x vs h), fun x vs h => b.tp x vs (a.tp x vs h), fun x o u h => b.frz x o u (a.frz x o u h), fun x h => a.dom x (b.dom x h)⟩
  · rcases List.mem_append.mp hx with z | z
    · exact n x z
    · exact a.dom x (n' x z)
  · refine b.keep x o (a.keep x o h hx hw) (fun z => a.nin h hx z) fun z => ?_
    rcases w x z with z | z
    · exact hw z
    · rw [h] at z; cases z
theorem StI.ext (S : StI c B r h H s sv) (e : Ext c r H r1 H1) (hh : HRel c r1 h1 H1) : StI c B r1 h1 H1 s sv :=
  ⟨hh, S.ex.trans (e.w B.W), S.sr.ext e, S.own, S.inj, S.bor⟩
theorem lsty_some {d : D} {v : V} (z : RepD c r H d v) (l : lsty d = true) : ∃ a o, v = .ref a ∧ H a = some o ∧ a ∉ r := by
  cases d with
  | s t => cases l
  | tl xs => obtain ⟨a, vs, e1, h1, _, n⟩ := z; exact ⟨a, _, e1, h1, n⟩
  | vw xs => obtain ⟨a, vs, e1, h1, _, n⟩ := z; exact ⟨a, _, e1, h1, n⟩
  | dt k kvs => obtain ⟨a, e1, h1, n⟩ := z; obtain ⟨o, ho⟩ := h1.some; exact ⟨a, o, e1, ho, n⟩
  | dv k kvs => obtain ⟨a, e1, h1, n⟩ := z; obtain ⟨o, ho⟩ := h1.some; exact ⟨a, o, e1, ho, n⟩
theorem own_lsty {d : D} (h : isOwn d = true) : lsty d = true := by cases d <;> first | rfl | cases h
theorem SRel.set {d : D} {v : V} {i : Nat} (SR : SRel c r H s sv) (z : RepD c r H d v) : SRel c r H (s.set i (some d)) (sv.set i (some v)) := by
  refine ⟨by simp [SR.len], fun j d' e => ?_⟩
  by_cases hj : i = j
  · subst hj
    by_cases hl : i < s.length
    · rw [List.getElem?_set_self hl] at e
      cases e
      exact ⟨v, List.getElem?_set_self (by rw [← SR.len]; exact hl), z⟩
    · rw [List.getElem?_eq_none (by simpa using hl)] at e; cases e
  · rw [List.getElem?_set_ne hj] at e ⊢
    exact SR.val j d' e
theorem set_some {α : Type} {l : List α} {i j : Nat} {a b : α} (e : (l.set i a)[j]? = some b) : (i = j ∧ a = b) ∨ (i ≠ j ∧ l[j]? = some b) := by
  by_cases hj : i = j
  · subst hj
    by_cases hl : i < l.length
    · rw [List.getElem?_set_self hl] at e
      exact .inl ⟨rfl, Option.some.inj e⟩
    · rw [List.getElem?_eq_none (by simpa using hl)] at e; cases e
  · rw [List.getElem?_set_ne hj] at e
    exact .inr ⟨hj, e⟩
/-- a name is given a value: data, or a thing that is new -/
theorem StI.set {d : D} {v : V} {i : Nat} (S : StI c B r h H s sv) (z : RepD c r H d v) (hd : isOwn d = lsty d) (fr : isOwn d = true → ∀ a, v = .ref a → (B.W a ∨ B.H0 a = none) ∧ ∀ (j : Nat) (d' : D), j ≠ i → s[j]? = some (some d') → lsty d' = true → sv[j]? ≠ some (some (.ref a))) :
    StI c B r h H (s.set i (some d)) (sv.set i (some v)) := by
  refine ⟨S.hh, S.ex, S.sr.set z, fun j d' a e o ev => ?_, fun j k d1 d2 a e1 o1 v1 e2 l2 v2 => ?_, fun j d' e l o => ?_⟩
  · rcases set_some e with ⟨rfl, f1⟩ | ⟨hj, f1⟩
    · cases f1
      rcases set_some ev with ⟨_, f2⟩ | ⟨hj, _⟩
      · exact (fr o a (Option.some.inj f2)).1
      · exact absurd rfl hj
    · rw [List.getElem?_set_ne hj] at ev
      exact S.own j d' a f1 o ev
  · rcases set_some e1 with ⟨rfl, f1⟩ | ⟨hj, f1⟩
    · cases f1
      rcases set_some v1 with ⟨_, g1⟩ | ⟨hj, _⟩
      · rcases set_some e2 with ⟨hk, _⟩ | ⟨hk, f2⟩
        · exact hk
        · rw [List.getElem?_set_ne hk] at v2
          exact absurd v2 ((fr o1 a (Option.some.inj g1)).2 k d2 (Ne.symm hk) f2 l2)
      · exact absurd rfl hj
    · rw [List.getElem?_set_ne hj] at v1
      rcases set_some e2 with ⟨rfl, f2⟩ | ⟨hk, f2⟩
      · cases f2
        rcases set_some v2 with ⟨_, g2⟩ | ⟨hk, _⟩
        · exact absurd v1 ((fr (by rw [hd]; exact l2) a (Option.some.inj g2)).2 j d1 (Ne.symm hj) f1 (own_lsty o1))
        · exact absurd rfl hk
      · rw [List.getElem?_set_ne hk] at v2
        exact S.inj j k d1 d2 a f1 o1 v1 f2 l2 v2
  · rcases set_some e with ⟨rfl, f1⟩ | ⟨hj, f1⟩
    · cases f1
      rw [hd, l] at o; cases o
    · rw [List.getElem?_set_ne hj]
      exact S.bor j d' f1 l o
/-- names are given data -/
theorem StI.bd {is : List Nat} (S : StI c B r h H s sv) (bd : Bd c r H is s sv s' sv') : StI c B r h H s' sv' := by
  have back : ∀ (i : Nat) (d : D), s'[i]? = some (some d) → lsty d = true → s[i]? = some (some d) ∧ sv'[i]? = sv[i]? := fun i d e l => by
    by_cases hi : i ∈ is
    · rcases bd.inn i d hi e with ⟨t, v, rfl, _⟩ | ⟨e1, e2⟩
      · cases l
      · exact ⟨e1, e2⟩
    · obtain ⟨o1, o2⟩ := bd.out i hi
      exact ⟨o1 ▸ e, o2⟩
  refine ⟨S.hh, S.ex, bd.srel S.sr, fun i d a e o ev => ?_, fun i j d d' a e1 o1 v1 e2 l2 v2 => ?_, fun i d e l o => ?_⟩
  · obtain ⟨b1, b2⟩ := back i d e (own_lsty o)
    exact S.own i d a b1 o (b2 ▸ ev)
  · obtain ⟨b1, b2⟩ := back i d e1 (own_lsty o1)
    obtain ⟨b3, b4⟩ := back j d' e2 l2
    exact S.inj i j d d' a b1 o1 (b2 ▸ v1) b3 l2 (b4 ▸ v2)
  · obtain ⟨b1, b2⟩ := back i d e l
    rw [b2]
    exact S.bor i d b1 l o
theorem frs_new {d : D} {v : V} (S : StI c B r h H s sv) (fr : Frs H d v) : isOwn d = true → ∀ a, v = .ref a → (B.W a ∨ B.H0 a = none) ∧ ∀ (j : Nat) (d' : D), s[j]? = some (some d') → lsty d' = true → sv[j]? ≠ some (some (.ref a)) := by
  intro o a ea
  have hn := fr o a ea
  refine ⟨.inr (S.ex.dom a hn), fun j d' e l ev => ?_⟩
  obtain ⟨v', e1, e2⟩ := S.sr.val j d' e
  rw [ev] at e1
  cases e1
  obtain ⟨b, o', eb, ho, _⟩ := lsty_some e2 l
  cases eb
  rw [hn] at ho; cases ho
/-- one expression of a statement, then the rest -/
theorem tEx_fl {E : Ends} {x : Ex} {f : D → LH → F} {Q : VK} (S : StI c B r h H s sv) (o : OutF c B ((evE c.P (callF c.P n) x s h).fl f) E)
    (k : ∀ v d h1 r1 H1, RepD c r1 H1 d v → Frs H d v → Ext c r H r1 H1 → HRel c r1 h1 H1 → OutF c B (f d h1) E → Q v H1) : tEx c n x sv H Q := by
  refine ⟨s, h, r, S.sr, S.hh, ?_⟩
  cases q : evE c.P (callF c.P n) x s h with
  | exc a b => rw [q] at o; exact o.elim
  | bad => rw [q] at o; exact o.elim
  | ok d h1 =>
    rw [q] at o
    exact fun v r1 H1 z hh1 ee => k v d h1 r1 H1 z.1 z.2 ee hh1 o
theorem tTx_fl {E : Ends} {x : Ex} {f : Bool → LH → F} {Q : Bool → Hp → Prop} (S : StI c B r h H s sv) (o : OutF c B ((evE c.P (callF c.P n) x s h).fl fun d h1 => (truD d h1).fl f) E)
    (k : ∀ b h1 r1 H1, Ext c r H r1 H1 → HRel c r1 h1 H1 → OutF c B (f b h1) E → Q b H1) : tTx c n x sv H Q := by
  refine ⟨s, h, r, S.sr, S.hh, ?_⟩
  cases q : evE c.P (callF c.P n) x s h with
  | exc a b => rw [q] at o; exact o.elim
  | bad => rw [q] at o; exact o.elim
  | ok d h1 =>
    rw [q] at o
    simp only [fl_ok] at o
    rw [bd_ok]
    cases q2 : truD d h1 with
    | exc a b => rw [q2] at o; exact o.elim
    | bad => rw [q2] at o; exact o.elim
    | ok b h2 =>
      rw [q2, fl_ok] at o
      exact fun b' r1 H1 z hh1 ee => by obtain rfl := z; exact k _ _ r1 H1 ee hh1 o
/-- a value is stored in the logical heap -/
theorem fix_fl {E : Ends} {f : T → LH → F} {d : D} {v : V} (S : StI c B r h H s sv) (ee : Ext c r H r1 H1) (z : RepD c r1 H1 d v) (fr : Frs H d v) (hh : HRel c r1 h1 H1) (o : OutF c B ((fix d h1).fl f) E) :
    ∃ t h2 r2, RepT c r2 H1 t v ∧ HRel c r2 h2 H1 ∧ Ext c r H r2 H1 ∧ OutF c B (f t h2) E := by
  cases q : fix d h1 with
  | exc a b => rw [q] at o; exact o.elim
  | bad => rw [q] at o; exact o.elim
  | ok t h2 =>
    rw [q, fl_ok] at o
    obtain ⟨r2, a1, a2, a3⟩ := fix_ok ee z fr hh q
    exact ⟨t, h2, r2, a1, a2, a3, o⟩
/-- .. or kept by a name -/
theorem keep_fl {E : Ends} {f : D → LH → F} {b : Bool} {d : D} {v : V} (S : StI c B r h H s sv) (ee : Ext c r H r1 H1) (z : RepD c r1 H1 d v) (fr : Frs H d v) (hh : HRel c r1 h1 H1) (o : OutF c B ((keep b d h1).fl f) E) :
    ∃ d' h2 r2, RepD c r2 H1 d' v ∧ Frs H d' v ∧ isOwn d' = lsty d' ∧ HRel c r2 h2 H1 ∧ Ext c r H r2 H1 ∧ OutF c B (f d' h2) E := by
  cases b with
  | true =>
    cases d with
    | vw xs => exact o.elim
    | dv k kvs => exact o.elim
    | s t => exact ⟨.s t, h1, r1, z, fr, rfl, hh, ee, o⟩
    | tl xs => exact ⟨.tl xs, h1, r1, z, fr, rfl, hh, ee, o⟩
    | dt k kvs => exact ⟨.dt k kvs, h1, r1, z, fr, rfl, hh, ee, o⟩
  | false =>
    unfold keep at o
    rw [if_neg (by decide)] at o
    cases q : fix d h1 with
    | exc a b => rw [q] at o; exact o.elim
    | bad => rw [q] at o; exact o.elim
    | ok t h2 =>
      rw [q] at o
      obtain ⟨r2, a1, a2, a3⟩ := fix_ok ee z fr hh q
      have fr' : Frs H (.s t) v := fun e => by cases e
      exact ⟨.s t, h2, r2, a1, fr', rfl, a2, a3, o⟩
end
end Rm
set_option Elab.async false
set_option linter.all false
set_option autoImplicit false
set_option maxRecDepth 100000
/-! Soundness 19: things that are changed. -/
namespace Rm
open PySem PySem.Spec PyProof.Rows L2
def PlR (p : Pl) (s : Sg) (sv : L2.St) (v : V) (r : List Addr) : Prop := match p with
  | .own i => sv[i]? = some (some v) ∧ ∃ d, s[i]? = some (some d) ∧ isOwn d = true
  | .at n => ∃ a, r[n]? = some a ∧ v = .ref a
section
variable {c : Tx} {n : Nat} {X : Cx} {N : List Str} {sc : Scope} {B : Bas} {r r1 : List Addr} {H H1 : Hp} {h h1 : LH} {s s' : Sg} {sv sv' : L2.St}
theorem Ext.setr {a : Addr} {o o' : HO} (ha : a ∈ r) (hD : H a = some o) (hm : Mut (some o)) : Ext c r H r (upd H a o') := by
  have w := ExtW.set (c := c) (r := r) (o' := o') hD hm
  exact ⟨w.more, fun x u q nx => w.keep x u q nx fun e => nx (e ▸ ha), w.tup, w.tp, w.frz, w.dom⟩
theorem HRel.upd {a : Addr} {m : Nat} {o o' : HO} {ob ob' : O} (hh : HRel c r h H) (e : r[m]? = some a) (e2 : h[m]? = some ob) (hD : H a = some o) (hm : Mut (some o)) (z : RepO c r (upd H a o') a ob') : HRel c r (h.set m ob') (upd H a o') := by
  refine ⟨by rw [List.length_set]; exact hh.len, hh.nd, fun k b ok e1 e3 => ?_⟩
  by_cases hk : m = k
  · subst hk
    rw [List.getElem?_set_self (List.getElem?_eq_some_iff.mp e2).1] at e3
    cases e3
    rw [e] at e1
    cases e1
    exact z
  · rw [List.getElem?_set_ne hk] at e3
    refine RepO.extW (ExtW.set hD hm) (upd_ne fun z => hk ?_) (hh.ob k b ok e1 e3)
    subst z
    obtain ⟨l1, g1⟩ := List.getElem?_eq_some_iff.mp e
    obtain ⟨l2, g2⟩ := List.getElem?_eq_some_iff.mp e1
    exact (List.getElem_inj hh.nd).mp (g1.trans g2.symm)
theorem RepD.extW' {W : Addr → Prop} {r1 : List Addr} {d : D} {v : V} (e : ExtW c W r H r1 H1) (z : RepD c r H d v) (k : lsty d = true → ∀ a, v = .ref a → ¬ W a) : RepD c r1 H1 d v := by
  cases d with
  | s t => exact RepT.extW e t v z
  | tl xs =>
    obtain ⟨a, vs, rfl, h1, h2, n⟩ := z
    exact ⟨a, vs, rfl, e.keep _ _ h1 n (k rfl a rfl), RepTs.extW e _ _ h2, e.nin h1 n⟩
  | vw xs =>
    obtain ⟨a, vs, rfl, h1, h2, n⟩ := z
    exact ⟨a, vs, rfl, e.keep _ _ h1 n (k rfl a rfl), RepTs.extW e _ _ h2, e.nin h1 n⟩
  | dt b kvs =>
    obtain ⟨a, rfl, h1, n⟩ := z
    obtain ⟨o, ho⟩ := h1.some
    exact ⟨a, rfl, RepO.extW (o := .dct b kvs) e ((e.keep _ _ ho n (k rfl a rfl)).trans ho.symm) h1, e.nin ho n⟩
  | dv b kvs =>
    obtain ⟨a, rfl, h1, n⟩ := z
    obtain ⟨o, ho⟩ := h1.some
    exact ⟨a, rfl, RepO.extW (o := .dct b kvs) e ((e.keep _ _ ho n (k rfl a rfl)).trans ho.symm) h1, e.nin ho n⟩
/-- a name's own thing is changed -/
theorem StI.upd {i : Nat} {d d' : D} {a : Addr} {o o' : HO} (S : StI c B r h H s sv) (e : s[i]? = some (some d)) (ow : isOwn d = true) (ev : sv[i]? = some (some (.ref a))) (hD : H a = some o) (hm : Mut (some o)) (na : a ∉ r) (z : RepD c r (upd H a o') d' (.ref a)) (ow' : isOwn d' = true) :
    StI c B r h (upd H a o') (s.set i (some d')) sv := by
  have w := ExtW.set (c := c) (r := r) (o' := o') hD hm
  have hi : i < s.length := (List.getElem?_eq_some_iff.mp e).1
  refine ⟨S.hh.set hD hm na, S.ex.comp w fun x hx => by subst hx; exact S.own i d _ e ow ev, ⟨by rw [List.length_set]; exact S.sr.len, fun j d1 e1 => ?_⟩, fun j d1 b e1 o1 v1 => ?_, fun j k d1 d2 b e1 o1 v1 e2 l2 v2 => ?_, fun j d1 e1 l1 o1 => ?_⟩
  · rcases set_some e1 with ⟨rfl, f1⟩ | ⟨hj, f1⟩
    · cases f1
      exact ⟨.ref a, ev, z⟩
    · obtain ⟨v, v1, v2⟩ := S.sr.val j d1 f1
      refine ⟨v, v1, v2.extW' w fun l b eb hb => hj ?_⟩
      subst eb hb
      exact S.inj i j d d1 _ e ow ev f1 l v1
  · rcases set_some e1 with ⟨rfl, f1⟩ | ⟨hj, f1⟩
    · exact S.own i d b e ow v1
    · exact S.own j d1 b f1 o1 v1
  · rcases set_some e1 with ⟨rfl, f1⟩ | ⟨hj, f1⟩
    · rcases set_some e2 with ⟨hk, _⟩ | ⟨hk, f2⟩
      · exact hk
      · exact S.inj i k d d2 b e ow v1 f2 l2 v2
    · rcases set_some e2 with ⟨rfl, f2⟩ | ⟨hk, f2⟩
      · exact S.inj j i d1 d b f1 o1 v1 e (own_lsty ow) v2
      · exact S.inj j k d1 d2 b f1 o1 v1 f2 l2 v2
  · rcases set_some e1 with ⟨rfl, f1⟩ | ⟨hj, f1⟩
    · cases f1
      rw [ow'] at o1; cases o1
    · exact S.bor j d1 f1 l1 o1
theorem repO_mut {a : Addr} {ob : O} (z : RepO c r H a ob) : ∃ o, H a = some o ∧ Mut (some o) := by
  cases ob with
  | lst xs => obtain ⟨vs, z, _⟩ := z; exact ⟨_, z, True.intro⟩
  | dct k kvs =>
    cases k with
    | true => obtain ⟨kv, z, _⟩ := z; exact ⟨_, z, True.intro⟩
    | false => obtain ⟨kv, z, _⟩ := z; exact ⟨_, z, True.intro⟩
theorem chg_run {E : Ends} {p : Pl} {f : O → Option O} {v : V} (S : StI c B r h H s sv) (pl : PlR p s sv v r) (o : OutF c B (chg p s h f) E) :
    ∃ a ob ob', v = .ref a ∧ f ob = some ob' ∧ RepO c r H a ob ∧ ∀ o', RepO c r (upd H a o') a ob' → E.nx sv (upd H a o') := by
  cases p with
  | own i =>
    obtain ⟨ev, d, ed, ow⟩ := pl
    obtain ⟨v', e1, e2⟩ := S.sr.val i d ed
    rw [ev] at e1
    cases e1
    unfold chg at o
    simp only [ed] at o
    cases d with
    | s t => cases ow
    | vw xs => cases ow
    | dv k kvs => cases ow
    | tl xs =>
      obtain ⟨a, vs, rfl, h1, h2, na⟩ := e2
      simp only at o
      cases q : f (.lst xs) with
      | none => rw [q] at o; exact o.elim
      | some ob' =>
        rw [q] at o
        cases ob' with
        | dct k kvs => exact o.elim
        | lst ys =>
          refine ⟨a, .lst xs, .lst ys, rfl, q, ⟨vs, h1, h2⟩, fun o' z => o sv r _ (S.upd ed rfl ev h1 True.intro na ?_ rfl)⟩
          obtain ⟨us, z1, z2⟩ := z
          exact ⟨a, us, rfl, z1, z2, na⟩
    | dt k kvs =>
      obtain ⟨a, rfl, h1, na⟩ := e2
      simp only at o
      cases q : f (.dct k kvs) with
      | none => rw [q] at o; exact o.elim
      | some ob' =>
        rw [q] at o
        cases ob' with
        | lst ys => exact o.elim
        | dct k' ys =>
          simp only at o
          split at o
          case isFalse => exact o.elim
          rename_i ek
          subst ek
          obtain ⟨u, hu, hm⟩ := repO_mut (ob := .dct k' kvs) h1
          exact ⟨a, .dct k' kvs, .dct k' ys, rfl, q, h1, fun o' z => o sv r _ (S.upd ed rfl ev hu hm na ⟨a, rfl, z, na⟩ rfl)⟩
  | «at» m =>
    obtain ⟨a, ea, rfl⟩ := pl
    unfold chg at o
    simp only at o
    cases eh : h[m]? with
    | none => rw [eh] at o; exact o.elim
    | some ob =>
      have z0 := S.hh.ob m a ob ea eh
      obtain ⟨u, hu, hm⟩ := repO_mut z0
      have ma : a ∈ r := List.mem_of_getElem? ea
      rw [eh] at o
      cases ob with
      | lst xs =>
        simp only at o
        cases q : f (.lst xs) with
        | none => rw [q] at o; exact o.elim
        | some ob' =>
          rw [q] at o
          cases ob' with
          | dct k kvs => exact o.elim
          | lst ys => exact ⟨a, .lst xs, .lst ys, rfl, q, z0, fun o' z => o sv r _ (S.ext (Ext.setr ma hu hm) (S.hh.upd ea eh hu hm z))⟩
      | dct k kvs =>
        simp only at o
        cases q : f (.dct k kvs) with
        | none => rw [q] at o; exact o.elim
        | some ob' =>
          rw [q] at o
          cases ob' with
          | lst ys => exact o.elim
          | dct k' ys =>
            simp only at o
            split at o
            case isFalse => exact o.elim
            rename_i ek
            subst ek
            exact ⟨a, .dct k' kvs, .dct k' ys, rfl, q, z0, fun o' z => o sv r _ (S.ext (Ext.setr ma hu hm) (S.hh.upd ea eh hu hm z))⟩
/-- the reading of a place -/
structure OkPl (c : Tx) (n : Nat) (X : Cx) (x : Ex) (te : TE) (e : Expr) : Prop where
  pe : PE X e te
  rd : ∀ {B : Bas} {E : Ends} {s : Sg} {h : LH} {r : List Addr} {sv : L2.St} {H : Hp} {f : Pl → LH → F} {Q : VK}, StI c B r h H s sv → OutF c B ((plOf c.P (callF c.P n) x s h).fl f) E →
    (∀ p v h1 r1 H1, PlR p s sv v r1 → Ext c r H r1 H1 → HRel c r1 h1 H1 → OutF c B (f p h1) E → Q v H1) → te sv H Q
theorem PlR.ext {p : Pl} {v : V} (e : Ext c r H r1 H1) (h : PlR p s sv v r) : PlR p s sv v r1 := by
  cases p with
  | own i => exact h
  | «at» m => obtain ⟨a, h1, h2⟩ := h; exact ⟨a, e.at h1, h2⟩
theorem okPl_e {x : Ex} {e : Expr} (ha : OkE c n X x e) (hx : ∀ i, x ≠ .v i) : OkPl c n X x (tEx c n x) e := by
  refine ⟨ha.pe, fun {B E s h r sv H f Q} S o k => ?_⟩
  have eq : plOf c.P (callF c.P n) x s h = (evE c.P (callF c.P n) x s h).bd fun d h1 => match d with
    | .s (.ref n) => .ok (.at n) h1
    | _ => .bad := by
    unfold plOf
    split
    · rename_i i; exact absurd rfl (hx i)
    · rfl
  rw [eq] at o
  refine ⟨s, h, r, S.sr, S.hh, ?_⟩
  cases q : evE c.P (callF c.P n) x s h with
  | exc a b => rw [q] at o; exact o.elim
  | bad => rw [q] at o; exact o.elim
  | ok d h1 =>
    rw [q, bd_ok] at o
    cases d with
    | s t =>
      cases t with
      | ref m => exact fun v r1 H1 z hh1 ee => k (.at m) v h1 r1 H1 z.1 ee hh1 o
      | _ => exact o.elim
    | _ => exact o.elim
theorem okPl_v (C : Cm c n N sc X) {i : Nat} {x : Str} {pos : Pos} (m : (decide (N[i]? = some x) && visB sc x) = true) : OkPl c n X (.v i) (tVar i) (.Name x pos) := by
  obtain ⟨m1, m2⟩ := Bool.and_eq_true_iff.mp m
  have m1 := of_decide_eq_true m1
  obtain ⟨v1, v2, v3⟩ := C.vis m2
  refine ⟨pe_var (X := X) (i := i) (by rw [C.eN]; exact m1) v1 v2 v3, fun {B E s h r sv H f Q} S o k => ?_⟩
  unfold plOf at o
  simp only at o
  cases q : s[i]? with
  | none => rw [q] at o; exact o.elim
  | some od =>
    cases od with
    | none => rw [q] at o; exact o.elim
    | some d =>
      rw [q] at o
      obtain ⟨v, e1, e2⟩ := S.sr.val i d q
      refine ⟨v, e1, ?_⟩
      cases d with
      | vw xs => exact o.elim
      | dv a b => exact o.elim
      | tl xs => exact k (.own i) v h r H ⟨e1, _, q, rfl⟩ Ext.refl S.hh o
      | dt a b => exact k (.own i) v h r H ⟨e1, _, q, rfl⟩ Ext.refl S.hh o
      | s t =>
        cases t with
        | ref m => exact k (.at m) v h r H e2 Ext.refl S.hh o
        | _ => exact o.elim
theorem okPl_any {sc : Scope} (C : Cm c n N sc X) (x : Ex) (e : Expr) (m : mE c.nm N x sc e = true) : ∃ te, OkPl c n X x te e := by
  by_cases hx : ∃ i, x = .v i
  · obtain ⟨i, rfl⟩ := hx
    cases e with
    | Name y p => exact ⟨_, okPl_v C (by simpa only [mE] using m)⟩
    | _ => simp [mE] at m
  · exact ⟨_, okPl_e (sE x sc e X C m) fun i e => hx ⟨i, e⟩⟩
end
end Rm
set_option Elab.async false
set_option linter.all false
set_option autoImplicit false
set_option maxRecDepth 100000
/-! Soundness 20: small statements. -/
namespace Rm
open PySem PySem.Spec PyProof.Rows L2
section
variable {c : Tx} {n : Nat} {X : Cx} {N : List Str} {sc : Scope}
theorem PS.imp' {st : Stmt} {t t' : TS} (h : PS X st t) (f : ∀ E sv H, t' E sv H → t E sv H) : PS X st t' := ⟨fun pins s σ H D I z => h.run pins s σ H D I (f D σ H z)⟩
theorem PSs.imp' {st : List Stmt} {t t' : TS} (h : PSs X st t) (f : ∀ E sv H, t' E sv H → t E sv H) : PSs X st t' := ⟨fun pins s σ H D I z => h.run pins s σ H D I (f D σ H z)⟩
theorem s_set {own : Bool} {i : Nat} {x : Ex} {st : Stmt} (h : PS X st (tAsg (tEx c n x) (gName i))) : PS X st (tSx c n (.set own i x)) := by
  refine PS.imp' h fun E sv H ⟨B, r, hp, s, S, o⟩ => ?_
  simp only [evS] at o
  refine tEx_fl S o fun v d h1 r1 H1 z fr ee hh o1 => ?_
  obtain ⟨d', h2, r2, z2, fr2, hd, hh2, ee2, o2⟩ := keep_fl S ee z fr hh o1
  have S2 := S.ext ee2 hh2
  exact o2 _ r2 H1 (S2.set z2 hd fun ow a ea => ⟨(frs_new S fr2 ow a ea).1, fun j d' _ => (frs_new S fr2 ow a ea).2 j d'⟩)
theorem s_unp {tg : Tg} {x : Ex} {st : Stmt} (h : PS X st (tAsg (tEx c n x) (gTg c tg))) : PS X st (tSx c n (.unp tg x)) := by
  refine PS.imp' h fun E sv H ⟨B, r, hp, s, S, o⟩ => ?_
  simp only [evS] at o
  refine tEx_fl S o fun v d h1 r1 H1 z fr ee hh o1 => ?_
  cases d with
  | s t =>
    simp only at o1
    cases q : bindG tg t s with
    | none => rw [q] at o1; exact o1.elim
    | some s' =>
      rw [q] at o1
      have S1 := S.ext ee hh
      exact bind_run tg t v s s' sv _ z S1.sr.len q fun sv' bd => o1 sv' r1 H1 (S1.bd bd)
  | _ => exact o1.elim
theorem bd_fl {α β : Type} (r : R α) (f : α → LH → R β) (g : β → LH → F) : (r.bd f).fl g = r.fl fun a h => (f a h).fl g := by
  cases r <;> rfl
/-- the value of a name that comes next to others -/
theorem s_par2 {b1 b2 : Bool} {i j : Nat} {x y : Ex} {e1 e2 : Expr} {st : Stmt} (hij : i ≠ j) (h1 : OkE c n X x e1) (h2 : OkE c n X y e2) (h : PS X st (tPar i j (tCons (tEx c n x) (tCons (tEx c n y) tNil)))) : PS X st (tSx c n (.par [(b1, i), (b2, j)] [x, y])) := by
  refine PS.imp' h fun E sv H ⟨B, r, hp, s, S, o⟩ => ?_
  simp only [evS, evK, bd_fl] at o
  refine tEx_fl S o fun v d h1 r1 H1 z fr ee hh o1 => ?_
  obtain ⟨d1, h2, r2, z2, fr2, hd1, hh2, ee2, o2⟩ := keep_fl S ee z fr hh o1
  have S2 := S.ext ee2 hh2
  refine tEx_fl S2 o2 fun w dd h3 r3 H3 z3 fr3 ee3 hh3 o3 => ?_
  obtain ⟨d2, h4, r4, z4, fr4, hd2, hh4, ee4, o4⟩ := keep_fl S2 ee3 z3 fr3 hh3 o3
  have S4 := S2.ext ee4 hh4
  refine ⟨v, w, rfl, ?_⟩
  simp only [R.fl, setsG] at o4
  have z2' : RepD c r4 H3 d1 v := z2.ext ee4
  have T1 := S4.set (i := i) z2' hd1 fun ow a ea => ⟨(frs_new S fr2 ow a ea).1, fun j d' _ => (frs_new S fr2 ow a ea).2 j d'⟩
  refine o4 _ r4 H3 (T1.set (i := j) z4 hd2 fun ow a ea => ⟨(frs_new S2 fr4 ow a ea).1, fun k d' hk ek lk => ?_⟩)
  rcases set_some ek with ⟨rfl, f1⟩ | ⟨hi, f1⟩
  · cases f1
    intro e
    rcases set_some e with ⟨_, f2⟩ | ⟨hi, _⟩
    · cases f2
      obtain ⟨b, oo, eb, hb, _⟩ := lsty_some z2 lk
      cases eb
      rw [fr4 ow a ea] at hb; cases hb
    · exact absurd rfl hi
  · rw [List.getElem?_set_ne hi]
    exact (frs_new S2 fr4 ow a ea).2 k d' f1 lk
theorem s_par3 {b1 b2 b3 : Bool} {i j l : Nat} {x y w0 : Ex} {e1 e2 e3 : Expr} {st : Stmt} (hij : i ≠ j) (hil : i ≠ l) (hjl : j ≠ l) (h1 : OkE c n X x e1) (h2 : OkE c n X y e2) (h3 : OkE c n X w0 e3) (h : PS X st (tPar3 i j l (tCons (tEx c n x) (tCons (tEx c n y) (tCons (tEx c n w0) tNil))))) : PS X st (tSx c n (.par [(b1, i), (b2, j), (b3, l)] [x, y, w0])) := by
  refine PS.imp' h fun E sv H ⟨B, r, hp, s, S, o⟩ => ?_
  simp only [evS, evK, bd_fl] at o
  refine tEx_fl S o fun v d h1 r1 H1 z fr ee hh o1 => ?_
  obtain ⟨d1, h2, r2, z2, fr2, hd1, hh2, ee2, o2⟩ := keep_fl S ee z fr hh o1
  have S2 := S.ext ee2 hh2
  refine tEx_fl S2 o2 fun w dd h3 r3 H3 z3 fr3 ee3 hh3 o3 => ?_
  obtain ⟨d2, h4, r4, z4, fr4, hd2, hh4, ee4, o4⟩ := keep_fl S2 ee3 z3 fr3 hh3 o3
  have S4 := S2.ext ee4 hh4
  refine tEx_fl S4 o4 fun u de h5 r5 H5 z5 fr5 ee5 hh5 o5 => ?_
  obtain ⟨d3, h6, r6, z6, fr6, hd3, hh6, ee6, o6⟩ := keep_fl S4 ee5 z5 fr5 hh5 o5
  have S6 := S4.ext ee6 hh6
  refine ⟨v, w, u, rfl, ?_⟩
  simp only [R.fl, setsG] at o6
  have z2' : RepD c r6 H5 d1 v := (z2.ext ee4).ext ee6
  have z4' : RepD c r6 H5 d2 w := z4.ext ee6
  have T1 := S6.set (i := i) z2' hd1 fun ow a ea => ⟨(frs_new S fr2 ow a ea).1, fun j d' _ => (frs_new S fr2 ow a ea).2 j d'⟩
  have T2 := T1.set (i := j) z4' hd2 fun ow a ea => ⟨(frs_new S2 fr4 ow a ea).1, fun k d' hk ek lk => by
    rcases set_some ek with ⟨rfl, f1⟩ | ⟨hi, f1⟩
    · cases f1
      intro e
      rcases set_some e with ⟨_, f2⟩ | ⟨hi, _⟩
      · cases f2
        obtain ⟨b, oo, eb, hb, _⟩ := lsty_some z2 lk
        cases eb
        rw [fr4 ow a ea] at hb; cases hb
      · exact absurd rfl hi
    · rw [List.getElem?_set_ne hi]
      exact (frs_new S2 fr4 ow a ea).2 k d' f1 lk⟩
  refine o6 _ r6 H5 (T2.set (i := l) z6 hd3 fun ow a ea => ⟨(frs_new S4 fr6 ow a ea).1, fun k d' hk ek lk => ?_⟩)
  rcases set_some ek with ⟨rfl, f1⟩ | ⟨hi, f1⟩
  · cases f1
    intro e
    rcases set_some e with ⟨_, f2⟩ | ⟨hi, _⟩
    · cases f2
      obtain ⟨b, oo, eb, hb, _⟩ := lsty_some z4 lk
      cases eb
      rw [fr6 ow a ea] at hb; cases hb
    · exact absurd rfl hi
  · rw [List.getElem?_set_ne hi]
    rcases set_some f1 with ⟨rfl, f2⟩ | ⟨hi2, f2⟩
    · cases f2
      intro e
      rcases set_some e with ⟨_, f3⟩ | ⟨hi3, _⟩
      · cases f3
        obtain ⟨b, oo, eb, hb, _⟩ := lsty_some (z2.ext ee4) lk
        cases eb
        rw [fr6 ow a ea] at hb; cases hb
      · exact absurd rfl hi3
    · rw [List.getElem?_set_ne hi2]
      exact (frs_new S4 fr6 ow a ea).2 k d' f2 lk
/-- the same by way of a tuple -/
theorem s_par2c {b1 b2 : Bool} {i j : Nat} {x y : Ex} {st : Stmt} (hij : i ≠ j) (h : PS X st (tAsg (tTup (tCons (tEx c n x) (tCons (tEx c n y) tNil))) (gTg c (.t [.n i, .n j])))) : PS X st (tSx c n (.par [(b1, i), (b2, j)] [x, y])) := by
  refine PS.imp' h fun E sv H ⟨B, r, hp, s, S, o⟩ => ?_
  simp only [evS, evK, bd_fl] at o
  refine tEx_fl S o fun v d h1 r1 H1 z fr ee hh o1 => ?_
  obtain ⟨d1, h2, r2, z2, fr2, hd1, hh2, ee2, o2⟩ := keep_fl S ee z fr hh o1
  have S2 := S.ext ee2 hh2
  refine tEx_fl S2 o2 fun w dd h3 r3 H3 z3 fr3 ee3 hh3 o3 => ?_
  obtain ⟨d2, h4, r4, z4, fr4, hd2, hh4, ee4, o4⟩ := keep_fl S2 ee3 z3 fr3 hh3 o3
  have S4 := S2.ext ee4 hh4
  refine ⟨by show 2 ≤ sizeLine; decide, fun p hp0 => ⟨p, [v, w], rfl, .inl (.inl upd_same), rfl, v, [w], rfl, w, [], rfl, rfl, ?_⟩⟩
  simp only [R.fl, setsG] at o4
  have en : Ext c r4 H3 r4 (upd H3 p (.tup [v, w])) := Ext.new hp0
  have S5 := S4.ext en (hh4.new hp0)
  have z2' := (z2.ext ee4).ext en
  have T1 := S5.set (i := i) z2' hd1 fun ow a ea => ⟨(frs_new S fr2 ow a ea).1, fun j d' _ => (frs_new S fr2 ow a ea).2 j d'⟩
  refine o4 _ r4 _ (T1.set (i := j) (z4.ext en) hd2 fun ow a ea => ⟨(frs_new S2 fr4 ow a ea).1, fun k d' hk ek lk => ?_⟩)
  rcases set_some ek with ⟨rfl, f1⟩ | ⟨hi, f1⟩
  · cases f1
    intro e
    rcases set_some e with ⟨_, f2⟩ | ⟨hi, _⟩
    · cases f2
      obtain ⟨b, oo, eb, hb, _⟩ := lsty_some z2 lk
      cases eb
      rw [fr4 ow a ea] at hb; cases hb
    · exact absurd rfl hi
  · rw [List.getElem?_set_ne hi]
    exact (frs_new S2 fr4 ow a ea).2 k d' f1 lk
theorem s_ret {x : Ex} {st : Stmt} (h : PS X st (tRet (tEx c n x))) : PS X st (tSx c n (.ret x)) := by
  refine PS.imp' h fun E sv H ⟨B, r, hp, s, S, o⟩ => ?_
  simp only [evS] at o
  refine tEx_fl S o fun v d h1 r1 H1 z fr ee hh o1 => ?_
  have fin : OutF c B (.ret d h1) E → E.rt v H1 := fun o => o v r1 H1 z (fun ow a ea => .inr (S.ex.dom a (fr ow a ea))) hh (S.ex.trans (ee.w B.W))
  cases d with
  | vw xs => exact o1.elim
  | dv k kvs => exact o1.elim
  | s t => exact fin o1
  | tl xs => exact fin o1
  | dt k kvs => exact fin o1
theorem s_rtv {i : Nat} {st : Stmt} (h : PS X st (tRet (tVar i))) : PS X st (tSx c n (.rtv i)) := by
  refine PS.imp' h fun E sv H ⟨B, r, hp, s, S, o⟩ => ?_
  simp only [evS] at o
  cases q : s[i]? with
  | none => rw [q] at o; exact o.elim
  | some od =>
    cases od with
    | none => rw [q] at o; exact o.elim
    | some d =>
      rw [q] at o
      obtain ⟨v, e1, e2⟩ := S.sr.val i d q
      refine ⟨v, e1, ?_⟩
      have fin : OutF c B (.ret d hp) E → E.rt v H := fun o => o v r H e2 (fun ow a ea => S.own i d a q ow (by rw [e1, ea])) S.hh S.ex
      cases d with
      | vw xs => exact o.elim
      | dv k kvs => exact o.elim
      | s t => exact fin o
      | tl xs => exact fin o
      | dt k kvs => exact fin o
theorem s_rtn {st : Stmt} (h : PS X st tRetN) : PS X st (tSx c n .rtn) :=
  PS.imp' h fun E sv H ⟨B, r, hp, s, S, o⟩ => by
    simp only [evS] at o
    exact o .non r H rfl (fun ow => by cases ow) S.hh S.ex
theorem s_pas {st : Stmt} (h : PS X st tNext) : PS X st (tSx c n .pas) :=
  PS.imp' h fun E sv H ⟨B, r, hp, s, S, o⟩ => by
    simp only [evS] at o
    exact o sv r H S
theorem s_cnt {st : Stmt} (h : PS X st tCont) : PS X st (tSx c n .cnt) :=
  PS.imp' h fun E sv H ⟨B, r, hp, s, S, o⟩ => by
    simp only [evS] at o
    exact o sv r H S
theorem s_brk {st : Stmt} (h : PS X st tBreak) : PS X st (tSx c n .brk) :=
  PS.imp' h fun E sv H ⟨B, r, hp, s, S, o⟩ => by
    simp only [evS] at o
    exact o sv r H S
theorem s_bad {st : Stmt} : PS X st (tSx c n .bad) :=
  PS.imp' ps_never fun E sv H ⟨B, r, hp, s, S, o⟩ => by
    simp only [evS] at o
    exact o
theorem s_ex {x : Ex} {st : Stmt} (h : PS X st (tDrop (tEx c n x))) : PS X st (tSx c n (.ex x)) := by
  refine PS.imp' h fun E sv H ⟨B, r, hp, s, S, o⟩ => ?_
  simp only [evS] at o
  exact tEx_fl S o fun v d h1 r1 H1 z fr ee hh o1 => o1 sv r1 H1 (S.ext ee hh)
theorem s_iff {x : Ex} {a b : List Sx} {st : Stmt} (h : PS X st (tIfS (tTx c n x) (tBx c n a) (tBx c n b))) : PS X st (tSx c n (.iff x a b)) := by
  refine PS.imp' h fun E sv H ⟨B, r, hp, s, S, o⟩ => ?_
  simp only [evS] at o
  refine tTx_fl S o fun d h1 r1 H1 ee hh o1 => ?_
  have S1 := S.ext ee hh
  cases d with
  | true => exact ⟨B, r1, h1, s, S1, o1⟩
  | false => exact ⟨B, r1, h1, s, S1, o1⟩
theorem b_nil : PSs X [] (tBx c n []) := PSs.imp' pss_nil fun E sv H ⟨B, r, hp, s, S, o⟩ => by
    simp only [evB] at o
    exact o sv r H S
theorem b_cons {x : Sx} {xs : List Sx} {st : Stmt} {sts : List Stmt} (h1 : PS X st (tSx c n x)) (h2 : PSs X sts (tBx c n xs)) : PSs X (st :: sts) (tBx c n (x :: xs)) :=
  PSs.imp' (pss_cons h1 h2) fun E sv H ⟨B, r, hp, s, S, o⟩ => by
    simp only [evB] at o
    refine ⟨B, r, hp, s, S, ?_⟩
    cases q : evS c.P (callF c.P n) x s hp with
    | nx s' h' => rw [q] at o; exact fun sv' r' H' S' => ⟨B, r', h', s', S', o⟩
    | ret d h' => rw [q] at o; exact o
    | brk s' h' => rw [q] at o; exact o
    | ct s' h' => rw [q] at o; exact o
    | exc a b => rw [q] at o; exact o
    | bad => rw [q] at o; exact o
/-! ### o[k] = e -/
theorem RepKT.any {r : List Addr} {H : Hp} (q : List Key) : ∀ {kvs : List (T × T)} {kv : List (List Key × V)}, RepKT c r H kvs kv → (kvs.any fun p => decide (p.1 = T.tup (q.map keyT))) = kv.any fun p => decide (p.1 = q)
  | [], kv, h => by obtain rfl := h; rfl
  | p :: ps, kv, h => by
    obtain ⟨k, v, ws, rfl, h0, h1, h2, h3⟩ := h
    rw [List.any_cons, List.any_cons, RepKT.any q h3]
    congr 1
    rw [h0]
    by_cases e : k = q
    · subst e; simp
    · have : ¬ (T.tup (k.map keyT) = T.tup (q.map keyT)) := fun z => e (mapT_inj (by injection z))
      simp only [e, this, decide_false]
theorem RepKT.map {r : List Addr} {H : Hp} {q : List Key} {t : T} {v : V} (z : RepT c r H t v) : ∀ {kvs : List (T × T)} {kv : List (List Key × V)}, RepKT c r H kvs kv → RepKT c r H (kvs.map fun p => if p.1 = T.tup (q.map keyT) then (p.1, t) else p) (kv.map fun p => if p.1 = q then (p.1, v) else p)
  | [], kv, h => by obtain rfl := h; rfl
  | p :: ps, kv, h => by
    obtain ⟨k, u, ws, rfl, h0, h1, h2, h3⟩ := h
    obtain ⟨p1, p2⟩ := p
    simp only at h0 h2
    subst h0
    rw [List.map_cons, List.map_cons]
    by_cases e : k = q
    · subst e
      rw [if_pos rfl, if_pos rfl]
      exact ⟨k, v, _, rfl, rfl, h1, z, RepKT.map z h3⟩
    · have ne : ¬ (T.tup (k.map keyT) = T.tup (q.map keyT)) := fun z => e (mapT_inj (by injection z))
      rw [if_neg ne, if_neg e]
      exact ⟨k, u, _, rfl, rfl, h1, h2, RepKT.map z h3⟩
theorem RepKT.append {r : List Addr} {H : Hp} : ∀ {xs ys : List (T × T)} {vs ws : List (List Key × V)}, RepKT c r H xs vs → RepKT c r H ys ws → RepKT c r H (xs ++ ys) (vs ++ ws)
  | [], ys, vs, ws, h, h' => by rw [show vs = [] from h]; exact h'
  | x :: xs, ys, vs, ws, h, h' => by
    obtain ⟨k, v, us, rfl, h0, h1, h2, h3⟩ := h
    exact ⟨k, v, us ++ ws, rfl, h0, h1, h2, RepKT.append h3 h'⟩
theorem RepKT.length {r : List Addr} {H : Hp} : ∀ {xs : List (T × T)} {vs : List (List Key × V)}, RepKT c r H xs vs → vs.length = xs.length
  | [], vs, h => by rw [show vs = [] from h]; rfl
  | x :: xs, vs, h => by
    obtain ⟨k, v, us, rfl, h0, h1, h2, h3⟩ := h
    rw [List.length_cons, List.length_cons, RepKT.length h3]
theorem RepKT.put {r : List Addr} {H : Hp} {q : List Key} {t : T} {v : V} {kvs : List (T × T)} {kv : List (List Key × V)} (h : RepKT c r H kvs kv) (zk : ∀ x ∈ q, RepT c r H (keyT x) (kV x)) (z : RepT c r H t v) : RepKT c r H (putT (.tup (q.map keyT)) t kvs) (putK kv q v) := by
  unfold putT putK
  rw [RepKT.any q h]
  split
  · exact RepKT.map z h
  · exact h.append ⟨q, v, [], rfl, rfl, zk, z, rfl⟩
def rPut : TSet := fun o i v H Q => rSetL o i v H Q ∨ rSetD o i v H Q
theorem set_put (hu : X.A.units + 1 < cLine) : PSet X rPut := by
  intro pins s σ H o i v ov iv u Q I r1 r2 r3 h
  rcases h with h | h
  · exact set_list pins s σ H o i v ov iv u Q I r1 r2 r3 h
  · exact set_dict hu pins s σ H o i v ov iv u Q I r1 r2 r3 h
theorem put_real {r : List Addr} {H : Hp} {a : Addr} {ob ob' : O} {kt t : T} {k v : V} {Q : Hp → Prop} (z : RepO c r H a ob) (zk : RepT c r H kt k) (zt : RepT c r H t v) (e : fPut kt t ob = some ob') (q : ∀ o', RepO c r (upd H a o') a ob' → Q (upd H a o')) : rPut (.ref a) k v H Q := by
  cases ob with
  | lst xs =>
    obtain ⟨vs, z1, z2⟩ := z
    cases kt with
    | int i =>
      simp only [fPut] at e
      cases ej : L2.ixN xs.length i with
      | none => rw [ej] at e; cases e
      | some j =>
        rw [ej] at e
        cases e
        obtain rfl : k = .int i := zk
        refine .inl ⟨a, vs, i, j, rfl, rfl, z1, by rw [z2.length]; exact ej, q _ ⟨_, upd_same, ?_⟩⟩
        exact RepTs.extW (ExtW.set (c := c) (r := r) z1 True.intro) _ _ (RepTs.set zt j z2)
    | _ => cases e
  | dct b kvs =>
    simp only [fPut] at e
    split at e
    · rename_i hc
      obtain ⟨hk, hs⟩ := Bool.and_eq_true_iff.mp hc
      cases e
      cases b with
      | true =>
        obtain ⟨kv, z1, z2⟩ := z
        obtain ⟨b, qk, rfl, hb, rfl, zq⟩ := tkey_of zk hk
        have hl := z2.length
        have hz : kv.length < sizeLine := by
          have := sizeOk_le hs
          omega
        refine .inr ⟨a, _, rfl, DPut.t z1 hb hz, q _ ⟨_, upd_same, ?_⟩⟩
        exact RepKT.extW (ExtW.set (c := c) (r := r) z1 True.intro) _ _ (z2.put zq zt)
      | false =>
        have kb := keyOk_f hk
        obtain ⟨kv, z1, z2⟩ := z
        obtain ⟨qk, ek, et⟩ := key_of zk kb
        subst ek et
        have hl := z2.length
        have hz : kv.length < sizeLine := by
          have := sizeOk_le hs
          omega
        refine .inr ⟨a, _, rfl, DPut.k z1 hz, q _ ⟨_, upd_same, ?_⟩⟩
        exact RepK.extW (ExtW.set (c := c) (r := r) z1 True.intro) _ _ (z2.put zk zt)
    · cases e
theorem s_put {o k x : Ex} {te : TE} {eo ek ex : Expr} {st : Stmt} (ho : OkPl c n X o te eo) (h : PS X st (tAsg (tEx c n x) (gSub te (tEx c n k) rPut))) : PS X st (tSx c n (.put o k x)) := by
  refine PS.imp' h fun E sv H ⟨B, r, hp, s, S, oo⟩ => ?_
  simp only [evS] at oo
  refine tEx_fl S oo fun v d h1 r1 H1 z fr ee hh o1 => ?_
  obtain ⟨t, h2, r2, zt, hh2, ee2, o2⟩ := fix_fl S ee z fr hh o1
  have S2 := S.ext ee2 hh2
  refine ho.rd S2 o2 fun p pv h3 r3 H3 pl e3 hh3 o3 => ?_
  have S3 := S2.ext e3 hh3
  refine tEx_fl S3 o3 fun kv kd h4 r4 H4 zk fk e4 hh4 o4 => ?_
  have S4 := S3.ext e4 hh4
  cases kd with
  | s kt =>
    obtain ⟨a, ob, ob', rfl, ef, z0, fin⟩ := chg_run S4 (pl.ext e4) o4
    exact put_real z0 zk (RepT.ext (e3.trans e4) _ _ zt) ef fin
  | _ => exact o4.elim
/-! ### o.append(e) -/
theorem app_real {r : List Addr} {H : Hp} {a : Addr} {ob ob' : O} {t : T} {v : V} {Q : VK} (z : RepO c r H a ob) (zt : RepT c r H t v) (e : fApp t ob = some ob') (q : ∀ o', RepO c r (upd H a o') a ob' → Q .non (upd H a o')) : rAppend (.ref a) [v] H Q := by
  cases ob with
  | dct b kvs => cases e
  | lst xs =>
    obtain ⟨vs, z1, z2⟩ := z
    simp only [fApp] at e
    split at e
    · rename_i hc
      cases e
      have := sizeOk_le hc
      have hl := z2.length
      refine ⟨a, vs, v, rfl, rfl, z1, by omega, q _ ⟨_, upd_same, ?_⟩⟩
      exact RepTs.extW (ExtW.set (c := c) (r := r) z1 True.intro) _ _ (z2.append ⟨v, [], rfl, zt, rfl⟩)
    · cases e
theorem plIs_l {B : Bas} {r : List Addr} {H : Hp} {h : LH} {s : Sg} {sv : L2.St} {p : Pl} {v : V} (S : StI c B r h H s sv) (pl : PlR p s sv v r) (e : plIs false p s h = true) : ∃ a vs, v = .ref a ∧ H a = some (.lst vs) := by
  cases p with
  | own i =>
    obtain ⟨ev, d, ed, ow⟩ := pl
    obtain ⟨v', e1, e2⟩ := S.sr.val i d ed
    rw [ev] at e1
    cases e1
    unfold plIs at e
    simp only [ed] at e
    cases d with
    | tl xs => obtain ⟨a, vs, rfl, h1, _⟩ := e2; exact ⟨a, vs, rfl, h1⟩
    | _ => cases e
  | «at» m =>
    obtain ⟨a, ea, rfl⟩ := pl
    unfold plIs at e
    simp only at e
    cases eh : h[m]? with
    | none => rw [eh] at e; cases e
    | some ob =>
      rw [eh] at e
      have z0 := S.hh.ob m a ob ea eh
      cases ob with
      | lst xs => obtain ⟨vs, z1, _⟩ := z0; exact ⟨a, vs, rfl, z1⟩
      | dct k kvs => cases e
theorem s_app {o x : Ex} {te : TE} {eo : Expr} {st : Stmt} (eK : X.K = c.K) (ho : OkPl c n X o te eo) (h : PS X st (tDrop (tBM X.K "list" rAppend te (tCons (tEx c n x) tNil)))) : PS X st (tSx c n (.app o x)) := by
  refine PS.imp' h fun E sv H ⟨B, r, hp, s, S, oo⟩ => ?_
  simp only [evS] at oo
  refine ho.rd S oo fun p pv h1 r1 H1 pl e1 hh1 o1 => ?_
  have S1 := S.ext e1 hh1
  split at o1
  case isFalse => exact o1.elim
  rename_i hl
  obtain ⟨a, vs, rfl, ha⟩ := plIs_l S1 pl hl
  refine ⟨.inl ⟨rfl, vs, .inl (.inl ha)⟩, ?_⟩
  refine tEx_fl S1 o1 fun v d h2 r2 H2 z fr ee hh o2 => ?_
  obtain ⟨t, h3, r3, zt, hh3, ee3, o3⟩ := fix_fl S1 ee z fr hh o2
  have S3 := S1.ext ee3 hh3
  obtain ⟨b, ob, ob', eb, ef, z0, fin⟩ := chg_run S3 (pl.ext ee3) o3
  cases eb
  exact app_real (Q := fun _ H => E.nx sv H) z0 zt ef fin
end
end Rm
set_option Elab.async false
set_option linter.all false
set_option autoImplicit false
set_option maxRecDepth 100000
/-! Soundness T: d.setdefault(k, v), d.clear(), of either kind of keys. -/
namespace Rm
open PySem PySem.Spec PyProof.Rows L2
section
variable {X : Cx} {pins : List (Addr × Obj)} {σ : L2.St} {H : Hp} {s : Shared} {a b : Addr} {r : Value} {d : V} {A : Around} {E : Value → Shared → Prop}
theorem d_setdT {kvs : List (List Key × V)} {k : List Key} {Q : Value → Shared → Prop} (hu : A.units + 1 < cLine) (I : Inv X pins σ H s) (e : H a = some (.dT kvs)) (eb : H b = some (.tup (k.map kV))) (rd : RelV d r) (hl : kvs.length < sizeLine)
    (h1 : ∀ v, valV kvs k = some v → ∀ (w' : Value) (s' : Shared), Inv X pins σ H s' → RelV v w' → Q w' s') (h2 : valV kvs k = none → ∀ (w' : Value) (s' : Shared), Inv X pins σ (upd H a (.dT (putK kvs k d))) s' → RelV d w' → Q w' s') :
    wpAny (model X.prog X.w) A (call (.builtin "dict.setdefault") [.ref a, .ref b, r]) Q E s := by
  obtain ⟨z, hd, xs, rel, dd⟩ := dt_of I.hok e
  have q := rel.val k
  refine call_setdefault_heap (hsz := by rw [← Paired.length rel]; exact z) (tupleKind_room_in1 hu) (L2.key_of I.hok eb) hd dd (fun p hp => ?_) fun hn h' dd' hs => ?_
  · rw [hp] at q
    cases q0 : valV kvs k with
    | none => rw [q0] at q; exact (show False from q).elim
    | some v0 => rw [q0] at q; exact h1 v0 q0 _ _ (I.tok _) q
  · rw [hn] at q
    cases q0 : valV kvs k with
    | some v0 => rw [q0] at q; exact (show False from q).elim
    | none =>
      have l2 : (putK kvs k d).length ≤ sizeLine := by have := length_putK kvs k d; omega
      obtain ⟨o, es, ep, g1, g2, g3, g4, _, g5⟩ := dd'
      refine h2 q0 _ _ (d_write I (by rw [e]; trivial) hs ⟨o, g1⟩ ⟨l2, hd, _, (rel.put k eb rd).keeps fun c ys ec => ?_, o, es, ep, g1, g2, g3, g4, g5⟩) rd
      rw [upd_ne (ne_of ec e fun z => nomatch z)]; exact ec
end
/-- d.setdefault(y, z), by what d tells of y -/
def tDSetG (td ty tx : TE) : TE := fun σ H Q => td σ H fun x H1 => ∃ a, x = .ref a ∧ IsD H1 a ∧ ty σ H1 fun y H2 => tx σ H2 fun z H3 => (∃ (kvs : List (Key × V)) (k : Key), H3 a = some (.dK kvs) ∧ y = kV k ∧ kvs.length < sizeLine ∧
  (∀ v, valV kvs k = some v → Q v H3) ∧ (valV kvs k = none → Q z (upd H3 a (.dK (putK kvs k z))))) ∨
  ∃ (kvs : List (List Key × V)) (k : List Key) (b : Addr), H3 a = some (.dT kvs) ∧ y = .ref b ∧ H3 b = some (.tup (k.map kV)) ∧ kvs.length < sizeLine ∧ (∀ v, valV kvs k = some v → Q v H3) ∧ (valV kvs k = none → Q z (upd H3 a (.dT (putK kvs k z))))
section
variable {X : Cx} {o e f : Expr} {td ty tx : TE} {apos cpos : Pos}
theorem pe_dsetG (hu : X.A.units + 1 < cLine) (ho : PE X o td) (he : PE X e ty) (hf : PE X f tx) (m : M2 X o "setdefault" apos e f cpos) : PE X (.Call (.Attribute o "setdefault" apos) [e, f] [] cpos) (tDSetG td ty tx) := by
  refine ⟨fun pins s σ H Q I h => wpAny_Call_method m.base m.few m.line PySem.F.plainAttrs_dict PySem.F.slot_dict_setdefault PySem.F.type_dict_setdefault (thn (ho.run pins s σ H _ I h) fun u s1 ⟨x, H1, I1, rx, a, ex, d, q1⟩ => ?_)⟩
  subst ex
  cases (show u = Value.ref a from rx)
  obtain ⟨t1, t2, _⟩ := isD_at I1 d
  refine ⟨t1, t2, ?_⟩
  rw [m.trees]
  refine Calls.callWith_builtin rfl (Calls.evalArgs_plain (Calls.spliced_cons (thn (he.run pins s1 σ H1 _ I1 q1) fun iv s2 ⟨y, H2, I2, ry, q2⟩ => Calls.spliced_cons (thn (hf.run pins s2 σ H2 _ I2 q2) fun fv s3 ⟨z, H3, I3, rz, q3⟩ => Calls.spliced_nil ?_))))
  rcases q3 with ⟨kvs, k, ea, rfl, hl, c1, c2⟩ | ⟨kvs, k, b, ea, rfl, eb, hl, c1, c2⟩
  · exact d_setd I3 ea ry rz hl (fun v hv w' s4 I4 rw' => ⟨v, _, I4, rw', c1 v hv⟩) fun hn w' s4 I4 rw' => ⟨z, _, I4, rw', c2 hn⟩
  · cases (show iv = Value.ref b from ry)
    exact d_setdT hu I3 ea eb rz hl (fun v hv w' s4 I4 rw' => ⟨v, _, I4, rw', c1 v hv⟩) fun hn w' s4 I4 rw' => ⟨z, _, I4, rw', c2 hn⟩
end
section
variable {c : Tx} {n : Nat} {X : Cx} {N : List Str} {sc : Scope}
theorem plIs_d {B : Bas} {r : List Addr} {H : Hp} {h : LH} {s : Sg} {sv : L2.St} {p : Pl} {v : V} (S : StI c B r h H s sv) (pl : PlR p s sv v r) (e : plIs true p s h = true) : ∃ a, v = .ref a ∧ IsD H a := by
  have isd : ∀ (a : Addr) (k : Bool) (kvs : List (T × T)), RepDc c r H k kvs a → IsD H a := fun a k kvs zd => by
    unfold RepDc at zd
    cases k with
    | true => obtain ⟨kv, z1, _⟩ := zd; exact .inr ⟨kv, .inl z1⟩
    | false => obtain ⟨kv, z1, _⟩ := zd; exact .inl ⟨kv, .inl z1⟩
  cases p with
  | own i =>
    obtain ⟨ev, d, ed, ow⟩ := pl
    obtain ⟨v', e1, e2⟩ := S.sr.val i d ed
    rw [ev] at e1
    cases e1
    unfold plIs at e
    simp only [ed] at e
    cases d with
    | dt k kvs => obtain ⟨a, rfl, h1, _⟩ := e2; exact ⟨a, rfl, isd a k kvs h1⟩
    | _ => cases e
  | «at» m =>
    obtain ⟨a, ea, rfl⟩ := pl
    unfold plIs at e
    simp only at e
    cases eh : h[m]? with
    | none => rw [eh] at e; cases e
    | some ob =>
      rw [eh] at e
      have z0 := S.hh.ob m a ob ea eh
      cases ob with
      | lst xs => cases e
      | dct k kvs => exact ⟨a, rfl, isd a k kvs z0⟩
theorem upd_id {H : Hp} {a : Addr} {o : HO} (h : H a = some o) : upd H a o = H := by
  funext b
  by_cases e : b = a
  · subst e; rw [upd_same, h]
  · rw [upd_ne e]
theorem sdf_real {r : List Addr} {H : Hp} {a : Addr} {ob ob' : O} {kt t : T} {y v : V} {Q : Hp → Prop} (z : RepO c r H a ob) (zk : RepT c r H kt y) (zt : RepT c r H t v) (e : fSdf kt t ob = some ob') (q : ∀ o', RepO c r (upd H a o') a ob' → Q (upd H a o')) :
    (∃ (kvs : List (Key × V)) (k : Key), H a = some (.dK kvs) ∧ y = kV k ∧ kvs.length < sizeLine ∧ (∀ w, valV kvs k = some w → Q H) ∧ (valV kvs k = none → Q (upd H a (.dK (putK kvs k v))))) ∨
    ∃ (kvs : List (List Key × V)) (k : List Key) (b : Addr), H a = some (.dT kvs) ∧ y = .ref b ∧ H b = some (.tup (k.map kV)) ∧ kvs.length < sizeLine ∧ (∀ w, valV kvs k = some w → Q H) ∧ (valV kvs k = none → Q (upd H a (.dT (putK kvs k v)))) := by
  cases ob with
  | lst xs => cases e
  | dct b kvs =>
    simp only [fSdf] at e
    split at e
    case isFalse => cases e
    rename_i hc
    obtain ⟨hk, hs⟩ := Bool.and_eq_true_iff.mp hc
    have sz := sizeOk_le hs
    cases e
    cases b with
    | true =>
      obtain ⟨kv, z1, z2⟩ := z
      obtain ⟨p, qk, rfl, hb, rfl, zq⟩ := tkey_of zk hk
      have hl := z2.length
      have lk := look_VT (q := qk) z2
      refine .inr ⟨kv, qk, p, z1, rfl, hb, by omega, fun w hw => ?_, fun hn => ?_⟩
      · cases el : lookT (.tup (qk.map keyT)) kvs with
        | none => rw [el] at lk; rw [show valV kv qk = none from lk] at hw; cases hw
        | some u =>
          rw [el] at q
          have := q (.dT kv) (by rw [upd_id z1]; exact ⟨kv, z1, z2⟩)
          rw [upd_id z1] at this
          exact this
      · cases el : lookT (.tup (qk.map keyT)) kvs with
        | some u => rw [el] at lk; obtain ⟨w, l1, _⟩ := lk; rw [hn] at l1; cases l1
        | none =>
          rw [el] at q
          exact q _ ⟨_, upd_same, RepKT.extW (ExtW.set (c := c) (r := r) z1 True.intro) _ _ (z2.put zq zt)⟩
    | false =>
      obtain ⟨kv, z1, z2⟩ := z
      obtain ⟨qk, rfl, rfl⟩ := key_of zk (keyOk_f hk)
      have hl := z2.length
      have lk := look_V (q := qk) z2
      refine .inl ⟨kv, qk, z1, rfl, by omega, fun w hw => ?_, fun hn => ?_⟩
      · cases el : lookT (keyT qk) kvs with
        | none => rw [el] at lk; rw [show valV kv qk = none from lk] at hw; cases hw
        | some u =>
          rw [el] at q
          have := q (.dK kv) (by rw [upd_id z1]; exact ⟨kv, z1, z2⟩)
          rw [upd_id z1] at this
          exact this
      · cases el : lookT (keyT qk) kvs with
        | some u => rw [el] at lk; obtain ⟨w, l1, _⟩ := lk; rw [hn] at l1; cases l1
        | none =>
          rw [el] at q
          exact q _ ⟨_, upd_same, RepK.extW (ExtW.set (c := c) (r := r) z1 True.intro) _ _ (z2.put zk zt)⟩
theorem s_clr {o : Ex} {te : TE} {eo : Expr} {st : Stmt} (ho : OkPl c n X o te eo) (h : PS X st (tDrop (tBM0 X.K "dict" rDClear te))) : PS X st (tSx c n (.clr o)) := by
  refine PS.imp' h fun E sv H ⟨B, r, hp, s, S, oo⟩ => ?_
  simp only [evS] at oo
  refine ho.rd S oo fun p pv h1 r1 H1 pl e1 hh1 o1 => ?_
  have S1 := S.ext e1 hh1
  split at o1
  case isFalse => exact o1.elim
  rename_i hl
  obtain ⟨a, rfl, ha⟩ := plIs_d S1 pl hl
  obtain ⟨b, ob, ob', eb, ef, z0, fin⟩ := chg_run S1 pl o1
  cases eb
  unfold fClr at ef
  split at ef
  · cases ef
    obtain ⟨kv, z1, z2⟩ := z0
    exact ⟨.inr (.inr (.inl ⟨rfl, .inl ⟨_, z1⟩⟩)), a, kv, rfl, rfl, z1, fin _ ⟨[], upd_same, rfl⟩⟩
  · cases ef
theorem s_sdf {o k x : Ex} {te : TE} {eo : Expr} {st : Stmt} (ho : OkPl c n X o te eo) (h : PS X st (tDrop (tDSetG te (tEx c n k) (tEx c n x)))) : PS X st (tSx c n (.sdf o k x)) := by
  refine PS.imp' h fun E sv H ⟨B, r, hp, s, S, oo⟩ => ?_
  simp only [evS] at oo
  refine ho.rd S oo fun p pv h1 r1 H1 pl e1 hh1 o1 => ?_
  have S1 := S.ext e1 hh1
  split at o1
  case isFalse => exact o1.elim
  rename_i hl
  obtain ⟨a, rfl, ha⟩ := plIs_d S1 pl hl
  refine ⟨a, rfl, ha, ?_⟩
  refine tEx_fl S1 o1 fun kv kd h2 r2 H2 zk fk e2 hh2 o2 => ?_
  have S2 := S1.ext e2 hh2
  refine tEx_fl S2 o2 fun v d h3 r3 H3 z fr e3 hh3 o3 => ?_
  obtain ⟨t, h4, r4, zt, hh4, e4, o4⟩ := fix_fl S2 e3 z fr hh3 o3
  have S4 := S2.ext e4 hh4
  cases kd with
  | s kt =>
    obtain ⟨b, ob, ob', eb, ef, z0, fin⟩ := chg_run S4 ((pl.ext e2).ext e4) o4
    cases eb
    exact sdf_real (Q := fun H => E.nx sv H) z0 (RepT.ext e4 _ _ zk) zt ef fin
  | _ => exact o4.elim
end
end Rm
set_option Elab.async false
set_option linter.all false
set_option autoImplicit false
set_option maxRecDepth 100000
/-! Soundness 21: loops. -/
namespace Rm
open PySem PySem.Spec PyProof.Rows L2
section
variable {c : Tx} {n : Nat} {X : Cx} {N : List Str} {sc : Scope}
theorem s_whl {x : Ex} {body : List Sx} {st : Stmt} (h : PS X st (tWhile (tTx c n x) (tBx c n body))) : PS X st (tSx c n (.whl x body)) := by
  refine PS.imp' h fun E sv H ⟨B, r, hp, s, S, o⟩ => ?_
  simp only [evS] at o
  generalize ec : (fun (s : Sg) (h : LH) => (evE c.P (callF c.P n) x s h).bd fun d h1 => truD d h1) = cc at o
  refine ⟨fun m sv H => ∃ r h s, StI c B r h H s sv ∧ OutF c B (whlL cc (fun s h => evB c.P (callF c.P n) body s h) m s h) E, ⟨wF, r, hp, s, S, o⟩, ?_⟩
  rintro m sv1 H1 ⟨r1, h1, s1, S1, o1⟩
  cases m with
  | zero => exact o1.elim
  | succ m =>
    unfold whlL at o1
    refine ⟨s1, h1, r1, S1.sr, S1.hh, ?_⟩
    have e0 : cc s1 h1 = (evE c.P (callF c.P n) x s1 h1).bd truD := by rw [← ec]
    rw [e0] at o1
    cases q : (evE c.P (callF c.P n) x s1 h1).bd truD with
    | exc a b => rw [q] at o1; exact o1.elim
    | bad => rw [q] at o1; exact o1.elim
    | ok b h2 =>
      rw [q] at o1
      intro b' r2 H2 eb hh2 ee
      obtain rfl := eb
      have S2 := S1.ext ee hh2
      cases b' with
      | false => exact o1 sv1 r2 H2 S2
      | true =>
        refine ⟨fun sv H => ∃ r h s, StI c B r h H s sv ∧ OutF c B (whlL cc (fun s h => evB c.P (callF c.P n) body s h) m s h) E, fun sv3 H3 z => ⟨m, Nat.lt_succ_self m, z⟩, B, r2, h2, s1, S2, ?_⟩
        simp only at o1
        cases q2 : evB c.P (callF c.P n) body s1 h2 with
        | nx s' h' => rw [q2] at o1; exact fun sv' r' H' S' => ⟨r', h', s', S', o1⟩
        | ct s' h' => rw [q2] at o1; exact fun sv' r' H' S' => ⟨r', h', s', S', o1⟩
        | brk s' h' => rw [q2] at o1; exact fun sv' r' H' S' => o1 sv' r' H' S'
        | ret d h' => rw [q2] at o1; exact o1
        | exc a b => rw [q2] at o1; exact o1
        | bad => rw [q2] at o1; exact o1
/-! ### lending -/
theorem lendS_len : ∀ (is : List Nat) (s : Sg), (lendS is s).length = s.length
  | [], s => rfl
  | i :: is, s => by
    unfold lendS
    split
    · rw [List.length_set, lendS_len is s]
    · exact lendS_len is s
theorem lendS_get : ∀ (is : List Nat) (s : Sg) (j : Nat), (lendS is s)[j]? = if j ∈ is then (s[j]?).map (·.map lend) else s[j]?
  | [], s, j => by simp [lendS]
  | i :: is, s, j => by
    have ih := lendS_get is s j
    unfold lendS
    split
    · rename_i d ed
      by_cases hj : i = j
      · subst hj
        have hl : i < (lendS is s).length := by rw [lendS_len]; exact (List.getElem?_eq_some_iff.mp ed).1
        rw [List.getElem?_set_self hl, if_pos (List.mem_cons_self ..), ed]
        rfl
      · rw [List.getElem?_set_ne hj, ih]
        have : (j ∈ i :: is) ↔ (j ∈ is) := by simp [Ne.symm hj]
        simp only [this]
    · rename_i hn
      by_cases hj : i = j
      · subst hj
        rw [ih, if_pos (List.mem_cons_self ..)]
        cases q : s[i]? with
        | none => simp
        | some od =>
          cases od with
          | none => simp
          | some d => exact absurd q (hn d)
      · rw [ih]
        have : (j ∈ i :: is) ↔ (j ∈ is) := by simp [Ne.symm hj]
        simp only [this]
theorem lend_own (d : D) : isOwn (lend d) = false := by cases d <;> rfl
theorem lend_lsty (d : D) : lsty (lend d) = lsty d := by cases d <;> rfl
theorem lend_rep {r : List Addr} {H : Hp} {d : D} {v : V} (z : RepD c r H d v) : RepD c r H (lend d) v := by cases d <;> exact z
theorem unlend_rep {r : List Addr} {H : Hp} {d : D} {v : V} (z : RepD c r H (lend d) v) : RepD c r H d v := by cases d <;> exact z
/-- a slot after lending, from before -/
theorem lend_cases {is : List Nat} {s : Sg} {j : Nat} {d : D} (e : (lendS is s)[j]? = some (some d)) : (j ∉ is ∧ s[j]? = some (some d)) ∨ (j ∈ is ∧ ∃ d0, s[j]? = some (some d0) ∧ d = lend d0) := by
  rw [lendS_get] at e
  split at e
  · rename_i hj
    cases q : s[j]? with
    | none => rw [q] at e; cases e
    | some od =>
      cases od with
      | none => rw [q] at e; cases e
      | some d0 => rw [q] at e; cases e; exact .inr ⟨hj, d0, rfl, rfl⟩
  · rename_i hj
    exact .inl ⟨hj, e⟩
theorem backS_len : ∀ {is : List Nat} {s0 s s' : Sg}, backS is s0 s = some s' → s'.length = s.length
  | [], s0, s, s', e => by cases e; rfl
  | i :: is, s0, s, s', e => by
    unfold backS at e
    split at e
    · split at e
      · split at e
        · cases q : backS is s0 s with
          | none => rw [q] at e; cases e
          | some z => rw [q] at e; cases e; rw [List.length_set, backS_len q]
        · cases e
      · exact backS_len e
    · exact backS_len e
/-- a slot that is given back, or as it was -/
theorem back_cases : ∀ {is : List Nat} {s0 s s' : Sg}, backS is s0 s = some s' → ∀ (j : Nat), (∃ d, j ∈ is ∧ s0[j]? = some (some d) ∧ isOwn d = true ∧ s[j]? = some (some (lend d)) ∧ s'[j]? = some (some d)) ∨
    (s'[j]? = s[j]? ∧ ∀ d d', j ∈ is → s0[j]? = some (some d) → isOwn d = true → s[j]? ≠ some (some d'))
  | [], s0, s, s', e, j => by cases e; exact .inr ⟨rfl, fun d d' hj => by simp at hj⟩
  | i :: is, s0, s, s', e, j => by
    unfold backS at e
    split at e
    · rename_i d d' e1 e2
      split at e
      · rename_i ow
        split at e
        · rename_i el
          cases q : backS is s0 s with
          | none => rw [q] at e; cases e
          | some z =>
            rw [q] at e
            cases e
            by_cases hj : i = j
            · subst hj
              have hl : i < z.length := by rw [backS_len q]; exact (List.getElem?_eq_some_iff.mp e2).1
              exact .inl ⟨d, List.mem_cons_self .., e1, ow, by rw [e2, el], List.getElem?_set_self hl⟩
            · rw [List.getElem?_set_ne hj]
              rcases back_cases q j with ⟨d1, a1, a2⟩ | ⟨a1, a2⟩
              · exact .inl ⟨d1, List.mem_cons_of_mem _ a1, a2⟩
              · refine .inr ⟨a1, fun d1 d1' hm => ?_⟩
                rcases List.mem_cons.mp hm with hm | hm
                · exact absurd hm.symm hj
                · exact a2 d1 d1' hm
        · cases e
      · rename_i ow
        rcases back_cases e j with ⟨d1, a1, a2⟩ | ⟨a1, a2⟩
        · exact .inl ⟨d1, List.mem_cons_of_mem _ a1, a2⟩
        · refine .inr ⟨a1, fun d1 d1' hm h1 h2 => ?_⟩
          rcases List.mem_cons.mp hm with hm | hm
          · subst hm
            rw [e1] at h1
            cases h1
            exact absurd h2 ow
          · exact a2 d1 d1' hm h1 h2
    · rename_i hn
      rcases back_cases e j with ⟨d1, a1, a2⟩ | ⟨a1, a2⟩
      · exact .inl ⟨d1, List.mem_cons_of_mem _ a1, a2⟩
      · refine .inr ⟨a1, fun d1 d1' hm h1 h2 h3 => ?_⟩
        rcases List.mem_cons.mp hm with hm | hm
        · subst hm
          exact hn d1 d1' h1 h3
        · exact a2 d1 d1' hm h1 h2 h3
/-- the state at a loop's start -/
def lpB (is : List Nat) (s : Sg) (sv : L2.St) (r : List Addr) (H : Hp) : Bas :=
  { W := fun a => ∃ (i : Nat) (d : D), (lendS is s)[i]? = some (some d) ∧ isOwn d = true ∧ sv[i]? = some (some (V.ref a)), r0 := r, H0 := H, S0 := lendS is s, V0 := sv }
theorem StI.lend {B : Bas} {r : List Addr} {h : LH} {H : Hp} {s : Sg} {sv : L2.St} (S : StI c B r h H s sv) (is : List Nat) : StI c (lpB is s sv r H) r h H (lendS is s) sv := by
  refine ⟨S.hh, Ext.refl.w _, ⟨by rw [lendS_len]; exact S.sr.len, fun i d e => ?_⟩, fun i d a e o v => .inl ⟨i, d, e, o, v⟩, fun i j d d' a e o v e' l v' => ?_, fun i d e l o => ⟨rfl, d, e, l, o⟩⟩
  · rcases lend_cases e with ⟨_, e1⟩ | ⟨_, d0, e1, rfl⟩
    · exact S.sr.val i d e1
    · obtain ⟨v, v1, v2⟩ := S.sr.val i d0 e1
      exact ⟨v, v1, lend_rep v2⟩
  · rcases lend_cases e with ⟨_, e1⟩ | ⟨_, d0, e1, rfl⟩
    · rcases lend_cases e' with ⟨_, e2⟩ | ⟨_, d1, e2, rfl⟩
      · exact S.inj i j d d' a e1 o v e2 l v'
      · exact S.inj i j d d1 a e1 o v e2 (by rw [← lend_lsty]; exact l) v'
    · rw [lend_own] at o; cases o
/-- .. and at its end -/
theorem StI.back {B : Bas} {rL r1 : List Addr} {h0 h1 : LH} {HL H1 : Hp} {s s1 s3 : Sg} {sv sv1 : L2.St} {is : List Nat} (S : StI c B rL h0 HL s sv) (S1 : StI c (lpB is s sv rL HL) r1 h1 H1 s1 sv1) (e : backS is s s1 = some s3) : StI c B r1 h1 H1 s3 sv1 := by
  have wl : ∀ a, (lpB is s sv rL HL).W a → B.W a ∨ B.H0 a = none := fun a ⟨i, d, e1, o1, v1⟩ => by
    rcases lend_cases e1 with ⟨_, e2⟩ | ⟨_, d0, e2, rfl⟩
    · exact S.own i d a e2 o1 v1
    · rw [lend_own] at o1; cases o1
  -- a slot that is given back holds what it held
  have res : ∀ {j : Nat} {d : D}, j ∈ is → s[j]? = some (some d) → isOwn d = true → s1[j]? = some (some (Rm.lend d)) → sv1[j]? = sv[j]? := fun {j d} hj e1 o1 e2 =>
    (S1.bor j _ e2 (by rw [lend_lsty]; exact own_lsty o1) (lend_own d)).1
  -- a borrowed slot that is not given back was borrowed ahead
  have bor : ∀ {j : Nat} {d : D}, s1[j]? = some (some d) → lsty d = true → isOwn d = false → (∀ d d', j ∈ is → s[j]? = some (some d) → isOwn d = true → s1[j]? ≠ some (some d')) → sv1[j]? = sv[j]? ∧ ∃ d0, s[j]? = some (some d0) ∧ lsty d0 = true ∧ isOwn d0 = false := fun {j d} e1 l1 o1 nr => by
    obtain ⟨b1, d0, b2, b3, b4⟩ := S1.bor j d e1 l1 o1
    refine ⟨b1, ?_⟩
    rcases lend_cases b2 with ⟨_, f⟩ | ⟨hj, d00, f, rfl⟩
    · exact ⟨d0, f, b3, b4⟩
    · refine ⟨d00, f, by rw [← lend_lsty]; exact b3, ?_⟩
      cases ow : isOwn d00 with
      | false => rfl
      | true => exact absurd e1 (nr d00 d hj f ow)
  refine ⟨S1.hh, S.ex.comp S1.ex wl, ⟨by rw [backS_len e]; exact S1.sr.len, fun j d ej => ?_⟩, fun j d a ej o v => ?_, fun i j d d' a e1 o1 v1 e2 l2 v2 => ?_, fun j d ej l o => ?_⟩
  · rcases back_cases e j with ⟨d0, hj, f1, f2, f3, f4⟩ | ⟨f1, _⟩
    · rw [f4] at ej
      cases ej
      obtain ⟨v, v1, v2⟩ := S1.sr.val j _ f3
      exact ⟨v, v1, unlend_rep v2⟩
    · rw [f1] at ej
      exact S1.sr.val j d ej
  · rcases back_cases e j with ⟨d0, hj, f1, f2, f3, f4⟩ | ⟨f1, _⟩
    · rw [f4] at ej
      cases ej
      rw [res hj f1 f2 f3] at v
      exact S.own j d a f1 f2 v
    · rw [f1] at ej
      rcases S1.own j d a ej o v with w | w
      · exact wl a w
      · exact .inr (S.ex.dom a w)
  · rcases back_cases e i with ⟨d0, hi, f1, f2, f3, f4⟩ | ⟨f1, f2⟩
    · rw [f4] at e1
      cases e1
      rw [res hi f1 f2 f3] at v1
      rcases back_cases e j with ⟨d1, hj, g1, g2, g3, g4⟩ | ⟨g1, g2⟩
      · rw [g4] at e2
        cases e2
        rw [res hj g1 g2 g3] at v2
        exact S.inj i j d d' a f1 o1 v1 g1 l2 v2
      · rw [g1] at e2
        cases ow : isOwn d' with
        | true =>
          rw [← res hi f1 f2 f3] at v1
          exact (S1.inj j i d' _ a e2 ow v2 f3 (by rw [lend_lsty]; exact own_lsty f2) v1).symm
        | false =>
          obtain ⟨b1, d2, b2, b3, b4⟩ := bor e2 l2 ow g2
          rw [b1] at v2
          exact S.inj i j d d2 a f1 o1 v1 b2 b3 v2
    · rw [f1] at e1
      rcases back_cases e j with ⟨d1, hj, g1, g2, g3, g4⟩ | ⟨g1, g2⟩
      · rw [g4] at e2
        cases e2
        exact S1.inj i j d _ a e1 o1 v1 g3 (by rw [lend_lsty]; exact own_lsty g2) v2
      · rw [g1] at e2
        exact S1.inj i j d d' a e1 o1 v1 e2 l2 v2
  · rcases back_cases e j with ⟨d0, hj, f1, f2, f3, f4⟩ | ⟨f1, f2⟩
    · rw [f4] at ej
      cases ej
      rw [f2] at o; cases o
    · rw [f1] at ej
      obtain ⟨b1, d2, b2, b3, b4⟩ := bor ej l o f2
      rw [b1]
      exact S.bor j d2 b2 b3 b4
end
end Rm
set_option Elab.async false
set_option linter.all false
set_option autoImplicit false
set_option maxRecDepth 100000
/-! Soundness 22: for. -/
namespace Rm
open PySem PySem.Spec PyProof.Rows L2
section
variable {c : Tx} {n : Nat} {X : Cx} {N : List Str} {sc : Scope}
theorem s_for {tg : Tg} {it : Ix} {body : List Sx} {st : Stmt} (h : PS X st (tFor (tIx c n it) (gTg c tg) (tBx c n body))) : PS X st (tSx c n (.for tg it body)) := by
  refine PS.imp' h fun E sv H ⟨B, r, hp, s, S, o⟩ => ?_
  simp only [evS] at o
  refine ⟨s, hp, r, S.sr, S.hh, ?_⟩
  cases q : evI c.P (callF c.P n) it s hp with
  | exc x y => rw [q] at o; exact o.elim
  | bad => rw [q] at o; exact o.elim
  | ok p h1 =>
    rw [q, fl_ok] at o
    intro J r1 H1 G gd hz hh1 ee
    have SL : StI c B r1 h1 H1 s sv := S.ext ee hh1
    generalize eis : slotI it = is at o gd
    generalize ef : (fun (x : T) (s : Sg) (h : LH) => (match bindG tg x s with
      | some s' => evB c.P (callF c.P n) body s' h
      | none => F.bad : F)) = f at o
    -- the walked things stay
    have tmpW : ∀ a, Tmp H is s sv a → ¬ (lpB is s sv r1 H1).W a := fun a ht ⟨j, d, e1, o1, v1⟩ => by
      rcases lend_cases e1 with ⟨hj, e2⟩ | ⟨hj, d0, e2, rfl⟩
      · rcases ht with ht | ⟨i, d1, hi, f1, f2, xs, f3⟩
        · obtain ⟨v, v2, v3⟩ := S.sr.val j d e2
          rw [v1] at v2
          cases v2
          obtain ⟨b, oo, eb, hb, _⟩ := lsty_some v3 (own_lsty o1)
          cases eb
          rw [ht] at hb; cases hb
        · have l1 : lsty d1 = true := by rw [← lend_lsty, f3]; rfl
          have := S.inj j i d d1 a e2 o1 v1 f1 l1 f2
          subst this
          exact hj hi
      · rw [lend_own] at o1; cases o1
    refine ⟨fun k m sv2 Hk => ∃ rk hk sk, m = p.1.length - k ∧ k ≤ p.1.length ∧ StI c (lpB is s sv r1 H1) rk hk Hk sk sv2 ∧ OutF c B (backF is s (forL f (stay p.2 h1) (p.1.drop k) sk hk)) E, ⟨p.1.length, r1, h1, lendS is s, by simp, Nat.zero_le _, SL.lend is, o⟩, ?_⟩
    rintro k m sv2 Hk ⟨rk, hk, sk, rfl, hkl, Sk, ok⟩
    have stayH : stay p.2 h1 hk = true → G rk hk Hk := fun st => gd.keep (lpB is s sv r1 H1).W rk hk Hk tmpW Sk.ex Sk.hh st
    by_cases hlt : k < p.1.length
    · refine .inr ?_
      rw [List.drop_eq_getElem_cons hlt] at ok
      simp only [forL] at ok
      split at ok
      case isFalse => exact ok.elim
      rename_i st
      refine ⟨gd.goes k rk hk Hk hlt (stayH st), fun sv3 H3 => ∃ rk hk sk, StI c (lpB is s sv r1 H1) rk hk H3 sk sv3 ∧ OutF c B (backF is s (forL f (stay p.2 h1) (p.1.drop (k + 1)) sk hk)) E,
        fun sv3 H3 ⟨rk, hk, sk, a1, a2⟩ => ⟨p.1.length - (k + 1), by omega, rk, hk, sk, rfl, hlt, a1, a2⟩, fun x H' hy => ?_⟩
      obtain ⟨t0, et0, ex, hhx, zt⟩ := gd.yields k rk hk Hk x H' hlt (stayH st) Sk.hh hy
      have et0' : t0 = p.1[k] := by
        rw [List.getElem?_eq_getElem hlt] at et0
        exact (Option.some.inj et0).symm
      subst et0'
      have Sx := Sk.ext ex hhx
      rw [← ef] at ok
      cases qb : bindG tg p.1[k] sk with
      | none => simp only [qb] at ok; exact ok.elim
      | some s' =>
        simp only [qb] at ok
        refine bind_run tg _ x sk s' sv2 _ zt Sx.sr.len qb fun sv' bd => ?_
        refine ⟨lpB is s sv r1 H1, rk, hk, s', Sx.bd bd, ?_⟩
        rw [ef] at ok
        cases q2 : evB c.P (callF c.P n) body s' hk with
        | nx s3 h3 => rw [q2] at ok; exact fun sv3 r3 H3 S3 => ⟨r3, h3, s3, S3, ok⟩
        | ct s3 h3 => rw [q2] at ok; exact fun sv3 r3 H3 S3 => ⟨r3, h3, s3, S3, ok⟩
        | brk s3 h3 =>
          rw [q2] at ok
          intro sv3 r3 H3 S3
          simp only [backF] at ok
          cases q3 : backS is s s3 with
          | none => rw [q3] at ok; exact ok.elim
          | some s4 => rw [q3] at ok; exact ok sv3 r3 H3 (SL.back S3 q3)
        | ret d h3 =>
          rw [q2] at ok
          intro v r3 H3 z ow hh3 ex3
          have wl : ∀ a, (lpB is s sv r1 H1).W a → B.W a ∨ B.H0 a = none := fun a ⟨i, d, e1, o1, v1⟩ => by
            rcases lend_cases e1 with ⟨_, e2⟩ | ⟨_, d0, e2, rfl⟩
            · exact SL.own i d a e2 o1 v1
            · rw [lend_own] at o1; cases o1
          refine ok v r3 H3 z (fun o1 a ea => ?_) hh3 (SL.ex.comp ex3 wl)
          rcases ow o1 a ea with w | w
          · exact wl a w
          · exact .inr (SL.ex.dom a w)
        | exc a b => rw [q2] at ok; exact ok
        | bad => rw [q2] at ok; exact ok
    · have ek' : k = p.1.length := by omega
      subst ek'
      rw [List.drop_length] at ok
      simp only [forL] at ok
      split at ok
      case isFalse => exact ok.elim
      rename_i st
      refine .inl ⟨gd.stops rk hk Hk (stayH st), ?_⟩
      simp only [backF] at ok
      cases q3 : backS is s sk with
      | none => rw [q3] at ok; exact ok.elim
      | some s4 => rw [q3] at ok; exact ok sv2 rk Hk (SL.back Sk q3)
end
end Rm
set_option Elab.async false
set_option linter.all false
set_option autoImplicit false
set_option maxRecDepth 100000
/-! Soundness 23: statements, all together. -/
namespace Rm
open PySem PySem.Spec PyProof.Rows L2
def lclB (sc : Scope) (x : Str) : Bool := decide (sc.names.lookup x = some .local)
def celB (sc : Scope) (x : Str) : Bool := decide (sc.names.lookup x = some .cell)
/-- an assignment of e to the name y: whether it is a comprehension in one line -/
def setB (sc : Scope) (y : Str) (py : Pos) : Expr → Bool
  | .ListComp _ _ scope p => celB sc y || (lclB sc y && (py.line == p.line) && !(scope.names.any fun (n, k) => n == y && (k == .local || k == .cell)))
  | .SetComp _ _ _ _ => false
  | .DictComp _ _ _ _ _ => false
  | _ => true
def noComp : Expr → Bool
  | .ListComp _ _ _ _ => false
  | .SetComp _ _ _ _ => false
  | .DictComp _ _ _ _ _ => false
  | _ => true
/-- no stores from the right -/
def noSw : Expr → Expr → Bool
  | .Tuple ts _ _, .Tuple vs _ _ => !(ts.length == 2 || ts.length == 3)
  | .Tuple _ _ _, .List _ _ => true
  | .Tuple _ _ _, .Call _ _ _ _ => true
  | .Tuple _ _ _, .Name _ _ => true
  | .Tuple _ _ _, .Subscript _ _ _ => true
  | .Tuple _ _ _, .BinOp _ _ _ _ => true
  | .Tuple _ _ _, .IfExp _ _ _ _ => true
  | _, _ => false
def parB (sc : Scope) (x y : Str) (px py : Pos) (a b : Expr) : Bool :=
  lclB sc x && lclB sc y && (py.line == px.line) && !(x == y) && !((foldedForSure 8 a) && (foldedForSure 8 b)) && !((constantsAlone 8 a) && (constantsAlone 8 b))
def parB3 (sc : Scope) (x y z : Str) (px py pz : Pos) (a b c : Expr) : Bool :=
  lclB sc x && lclB sc y && lclB sc z && (py.line == px.line) && (pz.line == px.line) && !(x == y) && !(x == z) && !(y == z) && !((foldedForSure 8 a) && (foldedForSure 8 b) && (foldedForSure 8 c)) && !((constantsAlone 8 a) && (constantsAlone 8 b) && (constantsAlone 8 c))
def allIs (N : List Str) : List Nat := List.range N.length
def mPar (nm : Nm) (N : List Str) (sc : Scope) (is : List (Bool × Nat)) (es : List Ex) (ts : List Expr) (e : Expr) : Bool := match is, es, ts, e with
  | [(_, i), (_, j)], [x, y], [.Tuple [.Name a pa, .Name b pb] _ _], .Tuple [e1, e2] _ _ => decide (N[i]? = some a) && decide (N[j]? = some b) && !(i == j) && (parB sc a b pa pb e1 e2 || (locB sc a && locB sc b && (celB sc a || celB sc b))) && mE nm N x sc e1 && mE nm N y sc e2
  | [(_, i), (_, j), (_, l)], [x, y, z], [.Tuple [.Name a pa, .Name b pb, .Name d pd] _ _], .Tuple [e1, e2, e3] _ _ => decide (N[i]? = some a) && decide (N[j]? = some b) && decide (N[l]? = some d) && !(i == j) && !(i == l) && !(j == l) && parB3 sc a b d pa pb pd e1 e2 e3 && mE nm N x sc e1 && mE nm N y sc e2 && mE nm N z sc e3
  | _, _, _, _ => false
mutual
def mS (nm : Nm) (N : List Str) (sc : Scope) : Sx → Stmt → Bool
  | .set _ i x, .Assign [.Name y py] e _ => decide (N[i]? = some y) && locB sc y && setB sc y py e && mE nm N x sc e
  | .unp tg x, .Assign [t] e _ => noComp e && noSw t e && mG N (allIs N) sc tg t && mE nm N x sc e
  | .par is es, .Assign ts e _ => mPar nm N sc is es ts e
  | .put o k x, .Assign [.Subscript eo ek _] e _ => mE nm N o sc eo && mE nm N k sc ek && mE nm N x sc e
  | .app o x, .Expr (.Call (.Attribute eo a ap) [e] [] cp) _ => decide (a = "append") && (ap.endLine == cp.line) && recvB eo && mE nm N o sc eo && mE nm N x sc e
  | .clr o, .Expr (.Call (.Attribute eo a ap) [] [] cp) _ => decide (a = "clear") && (ap.endLine == cp.line) && recvB eo && mE nm N o sc eo
  | .sdf o k x, .Expr (.Call (.Attribute eo a ap) [e1, e2] [] cp) _ => decide (a = "setdefault") && (ap.endLine == cp.line) && recvB eo && mE nm N o sc eo && mE nm N k sc e1 && mE nm N x sc e2
  | .ex x, .Expr e _ => noComp e && mE nm N x sc e
  | .iff x a b, .If e p q _ => mE nm N x sc e && mB nm N sc a p && mB nm N sc b q
  | .for tg it body, .For t i b [] _ => mG N (allIs N) sc tg t && mI nm N it sc t i && mB nm N sc body b
  | .whl x body, .While e b [] _ => mE nm N x sc e && mB nm N sc body b
  | .ret x, .Return (some e) _ => mE nm N x sc e
  | .rtv i, .Return (some (.Name y _)) _ => decide (N[i]? = some y) && visB sc y
  | .rtn, .Return none _ => true
  | .pas, .Pass _ => true
  | .cnt, .Continue _ => true
  | .brk, .Break _ => true
  | .bad, _ => true
  | _, _ => false
def mB (nm : Nm) (N : List Str) (sc : Scope) : List Sx → List Stmt → Bool
  | [], [] => true
  | x :: xs, st :: sts => mS nm N sc x st && mB nm N sc xs sts
  | _, _ => false
end
section
variable {c : Tx} {n : Nat} {X : Cx} {N : List Str} {sc : Scope}
theorem sw_none {e : Expr} {t : Option Expr} {l : Nat} {env : Env} (h : noComp e = true) : swapsWith e t l env = pure false := by
  cases e <;> first | rfl | cases h
theorem sw_set_false {e : Expr} {y : Str} {py : Pos} {l : Nat} {env : Env} (h : noComp e = true) : swapsWith e (some (.Name y py)) l env = pure false := sw_none h
theorem lcl_of {x : Str} (h : lclB sc x = true) : sc.names.lookup x = some .local := of_decide_eq_true h
theorem sw_cell {elt : Expr} {gs : List Comprehension} {scope : Scope} {p py : Pos} {y : Str} {l : Nat} {env : Env} (hs : env.scope = sc) (h : celB sc y = true) : swapsWith (.ListComp elt gs scope p) (some (.Name y py)) l env = pure false := by
  have ky : env.kindOf y = some .cell := by show env.scope.names.lookup y = _; rw [hs]; exact of_decide_eq_true h
  unfold swapsWith
  simp only [ky]
  cases env.blockKind <;> rfl
theorem sw_par_cell {x y : Str} {px py pt p2 : Pos} {kt k2 : Nat} {a b : Expr} {env : Env} (hs : env.scope = sc) (m : (celB sc x || celB sc y) = true) : swappedStores [.Tuple [.Name x px, .Name y py] kt pt] (.Tuple [a, b] k2 p2) env = pure none := by
  have e1 : ([Expr.Name x px, Expr.Name y py].filterMap fun | .Name id pos => if env.kindOf id == some .local && pos.line == px.line then some id else none | _ => none).length ≠ 2 := by
    rw [List.filterMap_cons, List.filterMap_cons, List.filterMap_nil]
    rcases Bool.or_eq_true_iff.mp m with h | h
    · have kx : env.kindOf x = some .cell := by show env.scope.names.lookup x = _; rw [hs]; exact of_decide_eq_true h
      simp only [kx]
      have : (some NameKind.cell == some NameKind.local) = false := by decide
      simp only [this, Bool.false_and, Bool.false_eq_true, if_false]
      split <;> simp
    · have ky : env.kindOf y = some .cell := by show env.scope.names.lookup y = _; rw [hs]; exact of_decide_eq_true h
      simp only [ky]
      have : (some NameKind.cell == some NameKind.local) = false := by decide
      simp only [this, Bool.false_and, Bool.false_eq_true, if_false]
      split <;> simp
  unfold swappedStores
  simp only [pure_bind, List.length_cons, List.length_nil, List.head?_cons, Option.map_some, Option.getD_some, Expr.pos]
  have key : ∀ (ns : List Str) (sb c1 c2 c3 : Bool) (u : Sem (Option (List Str))), ns.length ≠ 2 → (if c1 = true then pure none else if sb = true then pure none else
      if (ns.length != 0 + 1 + 1 || ns.eraseDups.length != ns.length) = true then pure none else if c2 = true then pure none else if c3 = true then u else pure (some ns) : Sem (Option (List Str))) = pure none := by
    intro ns sb c1 c2 c3 u h1
    have : (ns.length != 0 + 1 + 1) = true := by simpa using h1
    rw [this, Bool.true_or, if_pos rfl]
    split
    · rfl
    · split <;> rfl
  exact key _ _ _ _ _ _ e1
theorem sw_sub {e o i : Expr} {p : Pos} {l : Nat} {env : Env} : swapsWithSole [.Subscript o i p] e l env = pure false := by
  cases e <;> rfl
theorem sw_subS {e o i : Expr} {p : Pos} {env : Env} : swappedStores [.Subscript o i p] e env = pure none := by
  cases e <;> rfl
theorem sw_unp {t e : Expr} {l : Nat} {env : Env} (h1 : noComp e = true) : swapsWithSole [t] e l env = pure false := sw_none h1
theorem sw_unpS {t e : Expr} {env : Env} (h : noSw t e = true) : swappedStores [t] e env = pure none := by
  cases t <;> first | (cases e <;> cases h; done) | skip
  rename_i ts k p
  cases e <;> first | rfl | (cases h; done) | skip
  rename_i vs k2 p2
  unfold swappedStores
  simp only [noSw] at h
  simp only [pure_bind, h, Bool.true_or, if_true]
theorem sw_par2 {x y : Str} {px py pt p2 : Pos} {kt k2 : Nat} {a b : Expr} {env : Env} (hk : env.scope.kind = .function) (hs : env.scope = sc) (m : parB sc x y px py a b = true) (ha : okHead a = true) (hb : okHead b = true) :
    swappedStores [.Tuple [.Name x px, .Name y py] kt pt] (.Tuple [a, b] k2 p2) env = pure (some [x, y]) := by
  unfold parB at m
  simp only [Bool.and_eq_true, Bool.not_eq_true'] at m
  obtain ⟨⟨⟨⟨⟨m1, m2⟩, m3⟩, m4⟩, m5⟩, m6⟩ := m
  have kx : env.kindOf x = some .local := by show env.scope.names.lookup x = _; rw [hs]; exact lcl_of m1
  have ky : env.kindOf y = some .local := by show env.scope.names.lookup y = _; rw [hs]; exact lcl_of m2
  have hbk : env.blockKind = .function := by unfold Env.blockKind; rw [hk]; rfl
  have st : ∀ e : Expr, okHead e = true → (match e with | .Starred .. => true | _ => false) = false := by
    intro e h
    cases e <;> first | rfl | cases h
  have e1 : ([Expr.Name x px, Expr.Name y py].filterMap fun | .Name id pos => if env.kindOf id == some .local && pos.line == px.line then some id else none | _ => none) = [x, y] := by
    rw [List.filterMap_cons, List.filterMap_cons, List.filterMap_nil]
    simp only [kx, ky, m3, beq_self_eq_true, Bool.and_self, if_true]
  have e2 : [x, y].eraseDups = [x, y] := by
    have : (y == x) = false := by rw [Bool.eq_false_iff] at m4 ⊢; exact fun h => m4 (by rw [eq_of_beq h]; exact beq_self_eq_true _)
    rw [List.eraseDups_cons, List.filter_cons, this]
    simp [List.eraseDups_cons]
  have e3 : ([a, b].any fun | .Starred .. => true | _ => false) = false := by
    rw [List.any_cons, List.any_cons, List.any_nil, st a ha, st b hb]; rfl
  have e4 : [a, b].all (foldedForSure 8) = false := by simp only [List.all_cons, List.all_nil, Bool.and_true]; exact m5
  have e5 : [a, b].all (constantsAlone 8) = false := by simp only [List.all_cons, List.all_nil, Bool.and_true]; exact m6
  unfold swappedStores
  simp only [pure_bind, e4, e5, hbk, List.length_cons, List.length_nil, List.head?_cons, Option.map_some, Option.getD_some, Expr.pos]
  have key : ∀ (ns : List Str) (sb : Bool) (u : Sem (Option (List Str))), ns = [x, y] → sb = false → (if (!(0 + 1 + 1 == 2 || 0 + 1 + 1 == 3) || 0 + 1 + 1 != 0 + 1 + 1 || ScopeKind.function != ScopeKind.function) = true then pure none else if sb = true then pure none else
      if (ns.length != 0 + 1 + 1 || ns.eraseDups.length != ns.length) = true then pure none else if false = true then pure none else if false = true then u else pure (some ns) : Sem (Option (List Str))) = pure (some [x, y]) := by
    intro ns sb u h1 h2
    subst h1 h2
    rw [e2]
    rfl
  exact key _ _ _ e1 e3
theorem sw_par3 {x y z : Str} {px py pz pt p2 : Pos} {kt k2 : Nat} {a b d : Expr} {env : Env} (hk : env.scope.kind = .function) (hs : env.scope = sc) (m : parB3 sc x y z px py pz a b d = true) (ha : okHead a = true) (hb : okHead b = true) (hd : okHead d = true) :
    swappedStores [.Tuple [.Name x px, .Name y py, .Name z pz] kt pt] (.Tuple [a, b, d] k2 p2) env = pure (some [x, y, z]) := by
  unfold parB3 at m
  simp only [Bool.and_eq_true, Bool.not_eq_true'] at m
  obtain ⟨⟨⟨⟨⟨⟨⟨⟨⟨m1, m2⟩, m2'⟩, m3⟩, m3'⟩, m4⟩, m4'⟩, m4''⟩, m5⟩, m6⟩ := m
  have kx : env.kindOf x = some .local := by show env.scope.names.lookup x = _; rw [hs]; exact lcl_of m1
  have ky : env.kindOf y = some .local := by show env.scope.names.lookup y = _; rw [hs]; exact lcl_of m2
  have kz : env.kindOf z = some .local := by show env.scope.names.lookup z = _; rw [hs]; exact lcl_of m2'
  have hbk : env.blockKind = .function := by unfold Env.blockKind; rw [hk]; rfl
  have st : ∀ e : Expr, okHead e = true → (match e with | .Starred .. => true | _ => false) = false := by
    intro e h
    cases e <;> first | rfl | cases h
  have e1 : ([Expr.Name x px, Expr.Name y py, Expr.Name z pz].filterMap fun | .Name id pos => if env.kindOf id == some .local && pos.line == px.line then some id else none | _ => none) = [x, y, z] := by
    rw [List.filterMap_cons, List.filterMap_cons, List.filterMap_cons, List.filterMap_nil]
    simp only [kx, ky, kz, m3, m3', beq_self_eq_true, Bool.and_self, if_true]
  have sym : ∀ u v : Str, (u == v) = false → (v == u) = false := fun u v h => by
    rw [Bool.eq_false_iff] at h ⊢
    exact fun q => h (by rw [eq_of_beq q]; exact beq_self_eq_true _)
  have e2 : [x, y, z].eraseDups = [x, y, z] := by
    rw [List.eraseDups_cons, List.filter_cons, List.filter_cons, sym x y m4, sym x z m4']
    simp only [Bool.not_false, if_true, List.filter_nil]
    rw [List.eraseDups_cons, List.filter_cons, sym y z m4'']
    simp [List.eraseDups_cons]
  have e3 : ([a, b, d].any fun | .Starred .. => true | _ => false) = false := by
    rw [List.any_cons, List.any_cons, List.any_cons, List.any_nil, st a ha, st b hb, st d hd]; rfl
  have e4 : [a, b, d].all (foldedForSure 8) = false := by simp only [List.all_cons, List.all_nil, Bool.and_true, ← Bool.and_assoc]; exact m5
  have e5 : [a, b, d].all (constantsAlone 8) = false := by simp only [List.all_cons, List.all_nil, Bool.and_true, ← Bool.and_assoc]; exact m6
  unfold swappedStores
  simp only [pure_bind, e4, e5, hbk, List.length_cons, List.length_nil, List.head?_cons, Option.map_some, Option.getD_some, Expr.pos]
  have key : ∀ (ns : List Str) (sb : Bool) (u : Sem (Option (List Str))), ns = [x, y, z] → sb = false → (if (!(0 + 1 + 1 + 1 == 2 || 0 + 1 + 1 + 1 == 3) || 0 + 1 + 1 + 1 != 0 + 1 + 1 + 1 || ScopeKind.function != ScopeKind.function) = true then pure none else if sb = true then pure none else
      if (ns.length != 0 + 1 + 1 + 1 || ns.eraseDups.length != ns.length) = true then pure none else if false = true then pure none else if false = true then u else pure (some ns) : Sem (Option (List Str))) = pure (some [x, y, z]) := by
    intro ns sb u h1 h2
    subst h1 h2
    rw [e2]
    rfl
  exact key _ _ _ e1 e3
end
end Rm
set_option Elab.async false
set_option linter.all false
set_option autoImplicit false
set_option maxRecDepth 100000
/-! Soundness 24: statements, all together. -/
namespace Rm
open PySem PySem.Spec PyProof.Rows L2
section
variable {c : Tx} {n : Nat} {N : List Str} {sc : Scope} {X : Cx}
structure CmS (c : Tx) (n : Nat) (N : List Str) (sc : Scope) (X : Cx) : Prop where
  cm : Cm c n N sc X
  kind : sc.kind = .function
  fn : ∀ x, X.fn x = true
theorem CmS.own (C : CmS c n N sc X) : PassesOwn (model X.prog X.w) X.A X.env X.xe := by rw [C.cm.xe]; exact PassesOwn.never
theorem CmS.pg (C : CmS c n N sc X) {tg : Tg} {t : Expr} (m : mG N (allIs N) sc tg t = true) : PG X t (gTg c tg) :=
  pg_ok C.cm.eK C.cm.eN (fun x hx => by
    rcases loc_of hx with z | z
    · exact .inl (by show X.env.scope.names.lookup x = _; rw [C.cm.esc]; exact z)
    · exact .inr (by show X.env.scope.names.lookup x = _; rw [C.cm.esc]; exact z)) C.cm.calm C.cm.nd (fun x _ => .inl (C.fn x)) (allIs N) tg t m
theorem CmS.loc (C : CmS c n N sc X) {y : Str} (m : lclB sc y = true) : X.env.scope.names.lookup y = some .local := by rw [C.cm.esc]; exact lcl_of m
theorem set_any (C : CmS c n N sc X) {i : Nat} {x : Ex} {y : Str} {py pos : Pos} {e : Expr} (m1 : N[i]? = some y) (m2 : locB sc y = true) (m3 : setB sc y py e = true) (m4 : mE c.nm N x sc e = true) : PS X (.Assign [.Name y py] e pos) (tAsg (tEx c n x) (gName i)) := by
  have gen : swapsWith e (some (.Name y py)) pos.line X.env = pure false → PS X (.Assign [.Name y py] e pos) (tAsg (tEx c n x) (gName i)) := fun hc =>
    ps_set (by rw [C.cm.eN]; exact C.cm.nd) (by rw [C.cm.eN]; exact m1) (by
      rcases loc_of m2 with z | z
      · exact .inl (by show X.env.scope.names.lookup y = _; rw [C.cm.esc]; exact z)
      · exact .inr (by show X.env.scope.names.lookup y = _; rw [C.cm.esc]; exact z)) (sE x sc e X C.cm m4).pe hc (.inl (C.fn y))
  cases e with
  | SetComp a b d f => cases m3
  | DictComp a b d f g => cases m3
  | ListComp el gens scope p =>
    simp only [setB] at m3
    rcases Bool.or_eq_true_iff.mp m3 with m5 | m3
    · exact gen (sw_cell C.cm.esc m5)
    simp only [Bool.and_eq_true, Bool.not_eq_true'] at m3
    obtain ⟨⟨m2, m31⟩, m32⟩ := m3
    cases x with
    | lc elt tg it cnd own =>
      cases gens with
      | nil => simp [mE] at m4
      | cons g0 g0' =>
        cases g0' with
        | cons _ _ => simp [mE] at m4
        | nil =>
          obtain ⟨t, i2, ifs, k⟩ := g0
          simp only [mE, Bool.and_eq_true] at m4
          obtain ⟨⟨⟨⟨⟨q1, q2⟩, q3⟩, q4⟩, q5⟩, q6⟩ := m4
          have q1 := of_decide_eq_true q1
          subst q1
          obtain ⟨i1, i2'⟩ := sI it sc t i2 X C.cm q4
          exact ps_lc C.cm C.kind m1 (lcl_of m2) m31 m32 q2 q3 (mG_own tg t q3) i1 i2' fun Y CY => ⟨sEs cnd _ ifs Y CY q5, sE elt _ el Y CY q6⟩
    | _ => simp [mE] at m4
  | _ => exact gen (sw_none rfl)
def subS : Sx → List (List Sx)
  | .iff _ a b => [a, b]
  | .for _ _ b => [b]
  | .whl _ b => [b]
  | _ => []
theorem sS1 (C : CmS c n N sc X) : ∀ (x : Sx), (∀ xs ∈ subS x, ∀ sts, mB c.nm N sc xs sts = true → PSs X sts (tBx c n xs)) → ∀ (st : Stmt), mS c.nm N sc x st = true → PS X st (tSx c n x)
  | .set own i x, ih, st, m => by
    cases st with
    | Assign ts e pos =>
      cases ts with
      | nil => exact Bool.noConfusion (show false = true from m)
      | cons t0 t0' =>
        cases t0' with
        | cons _ _ => first | exact Bool.noConfusion (show false = true from m) | (cases t0 <;> exact Bool.noConfusion (show false = true from m))
        | nil =>
          cases t0 with
          | Name y py =>
            simp only [mS, Bool.and_eq_true] at m
            obtain ⟨⟨⟨m1, m2⟩, m3⟩, m4⟩ := m
            exact s_set (set_any C (of_decide_eq_true m1) m2 m3 m4)
          | _ => exact Bool.noConfusion (show false = true from m)
    | _ => exact Bool.noConfusion (show false = true from m)
  | .unp tg x, ih, st, m => by
    cases st with
    | Assign ts e pos =>
      cases ts with
      | nil => exact Bool.noConfusion (show false = true from m)
      | cons t0 t0' =>
        cases t0' with
        | cons _ _ => first | exact Bool.noConfusion (show false = true from m) | (cases t0 <;> exact Bool.noConfusion (show false = true from m))
        | nil =>
          simp only [mS, Bool.and_eq_true] at m
          obtain ⟨⟨⟨m1, m2⟩, m3⟩, m4⟩ := m
          have ha : (assignEach [t0] X.env).map (·.2) = [assign t0 X.env] := by
            cases t0 <;> first | rfl | (cases e <;> simp [noSw] at m2)
          exact s_unp (ps_asg (sE x sc e X C.cm m4).pe (C.pg m3) (sw_unp m1) (sw_unpS m2) ha)
    | _ => exact Bool.noConfusion (show false = true from m)
  | .par is es, ih, st, m => by
    cases st with
    | Assign ts e pos =>
      simp only [mS] at m
      unfold mPar at m
      split at m
      · rename_i b1 i b2 j x y a pa b pb kt pt v1 v2 k2 pt2
        simp only [Bool.and_eq_true, Bool.not_eq_true'] at m
        obtain ⟨⟨⟨⟨⟨m1, m2⟩, m3⟩, m4⟩, m5⟩, m6⟩ := m
        have ha := sE x sc v1 X C.cm m5
        have hb := sE y sc v2 X C.cm m6
        have hij : i ≠ j := by intro e; subst e; simp at m3
        rcases Bool.or_eq_true_iff.mp m4 with m4 | m4
        rotate_left
        · simp only [Bool.and_eq_true] at m4
          have mg : mG N (allIs N) sc (.t [.n i, .n j]) (.Tuple [.Name a pa, .Name b pb] kt pt) = true := by
            have li : i < N.length := (List.getElem?_eq_some_iff.mp (of_decide_eq_true m1)).1
            have lj : j < N.length := (List.getElem?_eq_some_iff.mp (of_decide_eq_true m2)).1
            simp only [mG, mGs, m1, m2, m4.1.1, m4.1.2, Bool.true_and, Bool.and_true, allIs, List.contains_eq_mem, List.mem_range, li, lj, decide_true]
          exact s_par2c hij (ps_asg (pe_tup (pa_cons ha.pe (pa_cons hb.pe pa_nil (hd_star hb.hd _ _)) (hd_star ha.hd _ _))) (C.pg mg) rfl (sw_par_cell C.cm.esc m4.2))
        have m4' := m4
        unfold parB at m4'
        simp only [Bool.and_eq_true] at m4'
        exact s_par2 hij ha hb (ps_par C.cm.calm (by rw [C.cm.eN]; exact C.cm.nd) (by rw [C.cm.eN]; exact of_decide_eq_true m1) (by rw [C.cm.eN]; exact of_decide_eq_true m2) hij (C.loc m4'.1.1.1.1.1) (C.loc m4'.1.1.1.1.2) (pa_cons ha.pe (pa_cons hb.pe pa_nil (hd_star hb.hd _ _)) (hd_star ha.hd _ _)) (sw_par2 (by rw [C.cm.esc]; exact C.kind) C.cm.esc m4 ha.hd hb.hd))
      · rename_i b1 i b2 j b3 l x y w a pa b pb d pd kt pt v1 v2 v3 k2 pt2
        simp only [Bool.and_eq_true, Bool.not_eq_true'] at m
        obtain ⟨⟨⟨⟨⟨⟨⟨⟨⟨m1, m2⟩, m3⟩, n1⟩, n2⟩, n3⟩, m4⟩, m5⟩, m6⟩, m7⟩ := m
        have ha := sE x sc v1 X C.cm m5
        have hb := sE y sc v2 X C.cm m6
        have hd := sE w sc v3 X C.cm m7
        have hij : i ≠ j := by intro e; subst e; simp at n1
        have hil : i ≠ l := by intro e; subst e; simp at n2
        have hjl : j ≠ l := by intro e; subst e; simp at n3
        have m4' := m4
        unfold parB3 at m4'
        simp only [Bool.and_eq_true] at m4'
        obtain ⟨⟨⟨⟨⟨⟨⟨⟨⟨q1, q2⟩, q3⟩, _⟩, _⟩, _⟩, _⟩, _⟩, _⟩, _⟩ := m4'
        exact s_par3 hij hil hjl ha hb hd (ps_par3 C.cm.calm (by rw [C.cm.eN]; exact C.cm.nd) (by rw [C.cm.eN]; exact of_decide_eq_true m1) (by rw [C.cm.eN]; exact of_decide_eq_true m2) (by rw [C.cm.eN]; exact of_decide_eq_true m3) hij hil hjl (C.loc q1) (C.loc q2) (C.loc q3) (pa_cons ha.pe (pa_cons hb.pe (pa_cons hd.pe pa_nil (hd_star hd.hd _ _)) (hd_star hb.hd _ _)) (hd_star ha.hd _ _)) (sw_par3 (by rw [C.cm.esc]; exact C.kind) C.cm.esc m4 ha.hd hb.hd hd.hd))
      · cases m
    | _ => exact Bool.noConfusion (show false = true from m)
  | .put o k x, ih, st, m => by
    cases st with
    | Assign ts e pos =>
      cases ts with
      | nil => exact Bool.noConfusion (show false = true from m)
      | cons t0 t0' =>
        cases t0' with
        | cons _ _ => first | exact Bool.noConfusion (show false = true from m) | (cases t0 <;> exact Bool.noConfusion (show false = true from m))
        | nil =>
          cases t0 with
          | Subscript eo ek p =>
            simp only [mS, Bool.and_eq_true] at m
            obtain ⟨⟨m1, m2⟩, m3⟩ := m
            obtain ⟨te, ho⟩ := okPl_any C.cm o eo m1
            have hk := sE k sc ek X C.cm m2
            have hk' := hk.hd
            have ha : ∀ v, assign (.Subscript eo ek p) X.env v = (do
                let ov ← holding [v] (eval eo X.env)
                let iv ← holding [v, ov] (eval ek X.env)
                standAt p
                holding [v, ov, iv] (setItem ov iv v)
                release [v, ov, iv] []) := by
              intro v
              cases ek <;> first | rfl | cases hk'
            exact s_put (ek := ek) (ex := e) ho (ps_asg (sE x sc e X C.cm m3).pe (pg_sub ho.pe hk.pe (set_put (by have := C.cm.units; omega)) ha) sw_sub sw_subS)
          | _ => exact Bool.noConfusion (show false = true from m)
    | _ => exact Bool.noConfusion (show false = true from m)
  | .app o x, ih, st, m => by
    cases st with
    | Expr e pos =>
      cases e with
      | Call fn vs ks cp =>
        cases fn with
        | Attribute eo a ap =>
          cases vs with
          | nil => exact Bool.noConfusion (show false = true from m)
          | cons v0 v0' =>
            cases v0' with
            | cons _ _ => first | exact Bool.noConfusion (show false = true from m) | (cases v0 <;> exact Bool.noConfusion (show false = true from m))
            | nil =>
              cases ks with
              | cons _ _ => exact Bool.noConfusion (show false = true from m)
              | nil =>
                simp only [mS, Bool.and_eq_true] at m
                obtain ⟨⟨⟨⟨m1, m2⟩, m3⟩, m4⟩, m5⟩ := m
                have m1 := of_decide_eq_true m1
                subst m1
                obtain ⟨te, ho⟩ := okPl_any C.cm o eo m4
                have hx := sE x sc v0 X C.cm m5
                have hst := hd_star hx.hd [] X.env
                exact s_app C.cm.eK ho (ps_expr (pe_bm F.plainAttrs_list F.slot_list_append F.type_list_append mt_append ho.pe (pa_cons hx.pe pa_nil hst) (attr_ok m3) (by rw [hst]; rfl) m2 hst rfl) rfl)
        | _ => exact Bool.noConfusion (show false = true from m)
      | _ => exact Bool.noConfusion (show false = true from m)
    | _ => exact Bool.noConfusion (show false = true from m)
  | .ex x, ih, st, m => by
    cases st with
    | Expr e pos =>
      simp only [mS, Bool.and_eq_true] at m
      exact s_ex (ps_expr (sE x sc e X C.cm m.2).pe (sw_none m.1))
    | _ => exact Bool.noConfusion (show false = true from m)
  | .iff x a b, ih, st, m => by
    cases st with
    | If e p q pos =>
      simp only [mS, Bool.and_eq_true] at m
      exact s_iff (ps_if (sE x sc e X C.cm m.1.1).pt (ih a (by simp [subS]) p m.1.2) (ih b (by simp [subS]) q m.2))
    | _ => exact Bool.noConfusion (show false = true from m)
  | .for tg it body, ih, st, m => by
    cases st with
    | For t i b oe pos =>
      cases oe with
      | cons _ _ => exact Bool.noConfusion (show false = true from m)
      | nil =>
        simp only [mS, Bool.and_eq_true] at m
        obtain ⟨i1, i2⟩ := sI it sc t i X C.cm m.1.2
        exact s_for (ps_for C.own C.cm.calm i1 (C.pg m.1.1) (ih body (by simp [subS]) b m.2) (fun v => hd_fold i2 _ v))
    | _ => exact Bool.noConfusion (show false = true from m)
  | .whl x body, ih, st, m => by
    cases st with
    | While e b oe pos =>
      cases oe with
      | cons _ _ => exact Bool.noConfusion (show false = true from m)
      | nil =>
        simp only [mS, Bool.and_eq_true] at m
        exact s_whl (ps_while C.own (sE x sc e X C.cm m.1).pt (ih body (by simp [subS]) b m.2))
    | _ => exact Bool.noConfusion (show false = true from m)
  | .ret x, ih, st, m => by
    cases st with
    | Return e pos =>
      cases e with
      | none => exact Bool.noConfusion (show false = true from m)
      | some e =>
        simp only [mS] at m
        exact s_ret (ps_ret (sE x sc e X C.cm m).pe)
    | _ => exact Bool.noConfusion (show false = true from m)
  | .rtv i, ih, st, m => by
    cases st with
    | Return e pos =>
      cases e with
      | none => exact Bool.noConfusion (show false = true from m)
      | some e =>
        cases e with
        | Name y p =>
          simp only [mS, Bool.and_eq_true] at m
          have m1 := of_decide_eq_true m.1
          obtain ⟨v1, v2, v3⟩ := C.cm.vis m.2
          exact s_rtv (ps_ret (pe_var (X := X) (i := i) (by rw [C.cm.eN]; exact m1) v1 v2 v3))
        | _ => exact Bool.noConfusion (show false = true from m)
    | _ => exact Bool.noConfusion (show false = true from m)
  | .rtn, ih, st, m => by
    cases st with
    | Return e pos =>
      cases e with
      | none => exact s_rtn ps_retN
      | some e => exact Bool.noConfusion (show false = true from m)
    | _ => exact Bool.noConfusion (show false = true from m)
  | .pas, ih, st, m => by
    cases st with
    | Pass pos =>
      exact s_pas ps_pass
    | _ => exact Bool.noConfusion (show false = true from m)
  | .cnt, ih, st, m => by
    cases st with
    | Continue pos =>
      exact s_cnt ps_continue
    | _ => exact Bool.noConfusion (show false = true from m)
  | .brk, ih, st, m => by
    cases st with
    | Break pos =>
      exact s_brk ps_break
    | _ => exact Bool.noConfusion (show false = true from m)
  | .bad, ih, st, m => s_bad
  | .ext o e, ih, st, m => by cases st <;> exact Bool.noConfusion (show false = true from m)
  | .clr o, ih, st, m => by
    cases st with
    | Expr e pos =>
      cases e with
      | Call fn vs ks cp =>
        cases fn with
        | Attribute eo a ap =>
          cases vs with
          | cons _ _ => exact Bool.noConfusion (show false = true from m)
          | nil =>
            cases ks with
            | cons _ _ => exact Bool.noConfusion (show false = true from m)
            | nil =>
              simp only [mS, Bool.and_eq_true] at m
              obtain ⟨⟨⟨m1, m2⟩, m3⟩, m4⟩ := m
              have m1 := of_decide_eq_true m1
              subst m1
              obtain ⟨te, ho⟩ := okPl_any C.cm o eo m4
              exact s_clr ho (ps_expr (pe_dclear ho.pe (attr_ok m3) m2) rfl)
        | _ => exact Bool.noConfusion (show false = true from m)
      | _ => exact Bool.noConfusion (show false = true from m)
    | _ => exact Bool.noConfusion (show false = true from m)
  | .sdf o k x, ih, st, m => by
    cases st with
    | Expr e pos =>
      cases e with
      | Call fn vs ks cp =>
        cases fn with
        | Attribute eo a ap =>
          cases vs with
          | nil => exact Bool.noConfusion (show false = true from m)
          | cons v0 v0' =>
            cases v0' with
            | nil => exact Bool.noConfusion (show false = true from m)
            | cons v1 v1' =>
              cases v1' with
              | cons _ _ => exact Bool.noConfusion (show false = true from m)
              | nil =>
                cases ks with
                | cons _ _ => exact Bool.noConfusion (show false = true from m)
                | nil =>
                  simp only [mS, Bool.and_eq_true] at m
                  obtain ⟨⟨⟨⟨⟨m1, m2⟩, m3⟩, m4⟩, m5⟩, m6⟩ := m
                  have m1 := of_decide_eq_true m1
                  subst m1
                  obtain ⟨te, ho⟩ := okPl_any C.cm o eo m4
                  have hk := sE k sc v0 X C.cm m5
                  have hx := sE x sc v1 X C.cm m6
                  have hst : starEach [v0, v1] X.env = [(false, eval v0 X.env), (false, eval v1 X.env)] := by rw [hd_star hk.hd, hd_star hx.hd]; rfl
                  have M : M2 X eo "setdefault" ap v0 v1 cp := ⟨attr_ok m3, by rw [hst]; rfl, m2, by rw [hst]; rfl⟩
                  exact s_sdf ho (ps_expr (pe_dsetG (by have := C.cm.units; omega) ho.pe hk.pe hx.pe M) rfl)
        | _ => exact Bool.noConfusion (show false = true from m)
      | _ => exact Bool.noConfusion (show false = true from m)
    | _ => exact Bool.noConfusion (show false = true from m)
  | .aug i op e, ih, st, m => by cases st <;> exact Bool.noConfusion (show false = true from m)
mutual
theorem sS (C : CmS c n N sc X) : ∀ (x : Sx) (st : Stmt), mS c.nm N sc x st = true → PS X st (tSx c n x)
  | .iff e a b, st, m => sS1 C _ (fun xs h sts m => by
      rcases List.mem_cons.mp h with h | h
      · rw [h] at m ⊢; exact sB C a sts m
      · rw [List.mem_singleton.mp h] at m ⊢; exact sB C b sts m) st m
  | .for tg it b, st, m => sS1 C _ (fun xs h sts m => by rw [List.mem_singleton.mp h] at m ⊢; exact sB C b sts m) st m
  | .whl e b, st, m => sS1 C _ (fun xs h sts m => by rw [List.mem_singleton.mp h] at m ⊢; exact sB C b sts m) st m
  | .set a b d, st, m => sS1 C _ (fun xs h => by cases h) st m
  | .unp a b, st, m => sS1 C _ (fun xs h => by cases h) st m
  | .par a b, st, m => sS1 C _ (fun xs h => by cases h) st m
  | .put a b d, st, m => sS1 C _ (fun xs h => by cases h) st m
  | .app a b, st, m => sS1 C _ (fun xs h => by cases h) st m
  | .ext a b, st, m => sS1 C _ (fun xs h => by cases h) st m
  | .clr a, st, m => sS1 C _ (fun xs h => by cases h) st m
  | .sdf a b d, st, m => sS1 C _ (fun xs h => by cases h) st m
  | .aug a b d, st, m => sS1 C _ (fun xs h => by cases h) st m
  | .ex a, st, m => sS1 C _ (fun xs h => by cases h) st m
  | .ret a, st, m => sS1 C _ (fun xs h => by cases h) st m
  | .rtv a, st, m => sS1 C _ (fun xs h => by cases h) st m
  | .rtn, st, m => sS1 C _ (fun xs h => by cases h) st m
  | .pas, st, m => sS1 C _ (fun xs h => by cases h) st m
  | .cnt, st, m => sS1 C _ (fun xs h => by cases h) st m
  | .brk, st, m => sS1 C _ (fun xs h => by cases h) st m
  | .bad, st, m => sS1 C _ (fun xs h => by cases h) st m
theorem sB (C : CmS c n N sc X) : ∀ (xs : List Sx) (sts : List Stmt), mB c.nm N sc xs sts = true → PSs X sts (tBx c n xs)
  | [], sts, m => by
    cases sts with
    | nil => exact b_nil
    | cons _ _ => simp [mB] at m
  | x :: xs, sts, m => by
    cases sts with
    | nil => simp [mB] at m
    | cons st sts =>
      simp only [mB, Bool.and_eq_true] at m
      exact b_cons (sS C x st m.1) (sB C xs sts m.2)
end
end
end Rm
set_option Elab.async false
set_option linter.all false
set_option autoImplicit false
set_option maxRecDepth 100000
/-! Soundness 25: defs. -/
namespace Rm
open PySem PySem.Spec PyProof.Rows L2
/-- what the text says of a def -/
structure FnF (c : Tx) (f : Nat) (d : Df) (a : Addr) (fd : FuncData) (ps : List Str) : Prop where
  ex : ∃ (x qual : Str) (params : Arguments) (body : List Stmt) (sc : Scope) (N : List Str), FunD c.K x qual params body sc [] [] a fd ∧ FnScope N ps sc ∧ ps.length = d.np ∧ N.length = d.ns ∧ mB c.nm N sc d.body body = true
  at_ : c.mg (c.nm.fn f) = some (.ref a)
  kp : PySem.W.keepIn c.K (.ref a) = true
  bi : Binds c.K fd ps []
structure TxF (c : Tx) (w : World) : Prop where
  fns : ∀ f d, c.P.df f = some d → ∃ a fd ps, FnF c f d a fd ps
  tx : Txt c
  gds : ∀ k kvs, c.P.gd k = some kvs → ∃ a, c.mg (c.nm.gn k) = some (.ref a) ∧ GdOk c w a kvs
section
variable {c : Tx} {P : Program} {w : World} {base : Heap}
theorem RepDs.get : ∀ {ds : List D} {vs : List V} {i : Nat} {d : D} {r : List Addr} {H : Hp}, RepDs c r H ds vs → ds[i]? = some d → ∃ v, vs[i]? = some v ∧ RepD c r H d v
  | [], vs, i, d, r, H, h, e => by simp at e
  | x :: xs, vs, 0, d, r, H, h, e => by
    obtain ⟨v, ws, rfl, h1, h2⟩ := h
    simp at e; subst e
    exact ⟨v, rfl, h1⟩
  | x :: xs, vs, i + 1, d, r, H, h, e => by
    obtain ⟨v, ws, rfl, h1, h2⟩ := h
    obtain ⟨u, e1, e2⟩ := RepDs.get (i := i) h2 (by simpa using e)
    exact ⟨u, by simpa using e1, e2⟩
theorem sp_len {n f : Nat} {d : Df} {ps : List Str} (hd : c.P.df f = some d) (hl : ps.length = d.np) (vs : List V) (H : Hp) (Q : VK) (E : XK) (h : spF c n f vs H Q E) : vs.length = ps.length := by
  obtain ⟨ds, hp, r, z, ow, hh, o⟩ := h
  obtain ⟨d', e, l⟩ := callF_len o.ne_bad
  rw [hd] at e
  cases e
  rw [z.length, l, hl]
/-- each def does what the evaluator says -/
theorem fn_all (T : TxF c w) : ∀ (n f : Nat) (d : Df) (a : Addr) (fd : FuncData) (ps : List Str), c.P.df f = some d → FnF c f d a fd ps → FnG P w c.K c.mg base n a fd ps (spF c n f)
  | 0, f, d, a, fd, ps, hd, F => by
    refine ⟨fun vs H Q E h => ?_, fun A outer s H args us vs Q E hr hg e0 hb r h => ?_⟩
    · obtain ⟨ds, hp, r, z, ow, hh, o⟩ := h
      exact (o : False).elim
    · obtain ⟨ds, hp, r, z, ow, hh, o⟩ := h
      exact (o : False).elim
  | n + 1, f, d, a, fd, ps, hd, F => by
    obtain ⟨x, qual, params, body, sc, N, FD, S, hps, hN, hm⟩ := F.ex
    obtain ⟨oc, od, dV, kV, doc, pm, an, cdv, ct, osl, rfl, lk, hcd, _, _⟩ := FD.ex
    refine fn_ofG lk hcd S (sp_len hd hps) fun A outer s H vs Q E hr hg h => ?_
    obtain ⟨ds, hp, r, z, ow, hh, o⟩ := h
    have C : CmS c n N sc (cxOf CX0 P w c.K c.mg base N qual sc a cdv A outer s H E).nox :=
      ⟨⟨rfl, rfl, rfl, rfl, rfl, hr, hg, rfl, S.nd, fun f' d' h' => by
        obtain ⟨a', fd', ps', F'⟩ := T.fns f' d' h'
        exact ⟨a', fd', ps', F'.at_, F'.kp, F'.bi, fn_all T n f' d' a' fd' ps' h' F'⟩, T.tx, T.gds⟩, S.kind, fun _ => rfl⟩
    refine ⟨tBx c n d.body, sB C d.body body hm, ?_⟩
    unfold callF at o
    rw [hd] at o
    simp only at o
    unfold run at o
    have hl : vs.length = ds.length := z.length
    split at o
    case isFalse => exact o.elim
    rename_i el
    let s0 : Sg := ds.map some ++ List.replicate (d.ns - d.np) none
    have es : ∀ i dd, s0[i]? = some (some dd) → ds[i]? = some dd := fun i dd e => by
      by_cases hi : i < ds.length
      · rw [List.getElem?_append_left (by simpa using hi), List.getElem?_map] at e
        cases q : ds[i]? with
        | none => rw [q] at e; cases e
        | some y => rw [q] at e; cases e; rfl
      · rw [List.getElem?_append_right (by simpa using Nat.le_of_not_lt hi), List.getElem?_replicate] at e
        split at e <;> cases e
    have nown : ∀ i dd, s0[i]? = some (some dd) → isOwn dd = false := fun i dd e => ow dd (List.mem_of_getElem? (es i dd e))
    let B : Bas := { W := fun _ => False, r0 := r, H0 := H, S0 := s0, V0 := start N vs }
    have S0 : StI c B r hp H s0 (start N vs) := by
      refine ⟨hh, Ext.refl.w _, ⟨?_, fun i dd e => ?_⟩, fun i dd b e o1 => ?_, fun i j d1 d2 b e o1 => ?_, fun i dd e l o1 => ⟨rfl, dd, e, l, o1⟩⟩
      · show (ds.map some ++ List.replicate (d.ns - d.np) none).length = (start N vs).length
        unfold L2.start
        simp
        omega
      · obtain ⟨v, e1, e2⟩ := z.get (es i dd e)
        refine ⟨v, ?_, e2⟩
        unfold L2.start
        rw [List.getElem?_append_left (by rw [List.length_map]; exact (List.getElem?_eq_some_iff.mp e1).1), List.getElem?_map, e1]
        rfl
      · rw [nown i dd e] at o1; cases o1
      · rw [nown i d1 e] at o1; cases o1
    refine ⟨B, r, hp, s0, S0, ?_⟩
    have ew : ∀ {r' : List Addr} {H' : Hp}, ExtW c B.W B.r0 B.H0 r' H' → Ext c r H r' H' := fun e => ExtW.ext e
    cases q : evB c.P (callF c.P n) d.body s0 hp with
    | nx s' h' =>
      rw [show evB c.P (callF c.P n) d.body (ds.map some ++ List.replicate (d.ns - d.np) none) hp = _ from q] at o
      exact fun sv' r' H' S' => o .non r' H' ⟨rfl, fun e => by cases e⟩ S'.hh (ew S'.ex)
    | ret dd h' =>
      rw [show evB c.P (callF c.P n) d.body (ds.map some ++ List.replicate (d.ns - d.np) none) hp = _ from q] at o
      exact fun v r' H' zd ow' hh' ex' => o v r' H' ⟨zd, fun e b eb => (ow' e b eb).elim (fun z => z.elim) fun z => z⟩ hh' (ew ex')
    | brk s' h' =>
      rw [show evB c.P (callF c.P n) d.body (ds.map some ++ List.replicate (d.ns - d.np) none) hp = _ from q] at o
      exact o.elim
    | ct s' h' =>
      rw [show evB c.P (callF c.P n) d.body (ds.map some ++ List.replicate (d.ns - d.np) none) hp = _ from q] at o
      exact o.elim
    | exc a b =>
      rw [show evB c.P (callF c.P n) d.body (ds.map some ++ List.replicate (d.ns - d.np) none) hp = _ from q] at o
      exact o.elim
    | bad =>
      rw [show evB c.P (callF c.P n) d.body (ds.map some ++ List.replicate (d.ns - d.np) none) hp = _ from q] at o
      exact o.elim
end
end Rm
set_option Elab.async false
set_option linter.all false
set_option autoImplicit false
set_option maxRecDepth 100000
set_option maxHeartbeats 2000000
/-! Soundness 26: a law's end. -/
namespace Rm
open PySem PySem.Spec PyProof.Rows L2
/-- the script in the hand layer's heap: locked, if it isn't the text's own -/
def scH (K : PySem.W.Frag) (a : Addr) (o : Obj) (ns : List Int) : Hp := fun b => if b = a ∧ K.lookup a = none then some (.frz o (.lst (ns.map V.int))) else none
section
variable {K : PySem.W.Frag} {a b : Addr} {o : Obj} {ns : List Int}
theorem scH_some {u : HO} (e : scH K a o ns b = some u) : b = a ∧ K.lookup a = none ∧ u = .frz o (.lst (ns.map V.int)) := by
  unfold scH at e
  split at e
  · rename_i h
    cases e
    exact ⟨h.1, h.2, rfl⟩
  · cases e
theorem scH_at (h : K.lookup a = none) : scH K a o ns a = some (.frz o (.lst (ns.map V.int))) := if_pos ⟨rfl, h⟩
/-- a law whose def keeps its promise where nothing is being shown -/
theorem law_endG {P : Program} {w : World} {mg mb : Str → Option Value} {k : Nat} {fa : Addr} {fd : FuncData} {x : Str} {sp : Sp} {s₁ : Shared} {vs : List Value}
    (KX : K.In s₁.heap) (hns : s₁.heap.Ns mainGlobals mg) (hb : s₁.heap.Ns builtinsNs mb) (hbb : ∀ x : Str, x ≠ "__name__" → mb x = bootBuiltins x) (hlim : s₁.heap.NoLimit) (hg : s₁.gens = #[])
    (ha : s₁.heap.get? a = some { cls := .type "list", data := .seq vs.toArray }) (hi : IntsAre vs ns) (hl : ns.length ≤ sizeLine) (hr : Room k callerA)
    (F : ∀ base : Heap, K.In base → base.Ns mainGlobals mg → FnG P w K mg base k fa fd [x] sp) (hbind : ∀ (s : Shared) (u : Value), BindsTo s fd ⟨[u], []⟩ [(x, u)])
    (hsp : ∀ H : Hp, Frl K H a (ns.map V.int) → sp [.ref a] H (fun v _ => v = .bl true) E0) :
    codeAny (model P w) callerA (.call (.ref fa) ⟨[.ref a], []⟩) (fun r s' => r = .ok (.ret (.bool true)) ∧ OldK s₁.heap s'.heap ∧ s'.os = s₁.os ∧ AllBare s'.gens) s₁ := by
  have rv := vals_ints hi
  have lenV := hi.length
  generalize eo : ({ cls := .type "list", data := .seq vs.toArray } : Obj) = o at ha
  generalize eH : scH K a o ns = H
  have hH : ∀ {b : Addr} {u : HO}, H b = some u → b = a ∧ K.lookup a = none ∧ u = .frz o (.lst (ns.map V.int)) := fun {b u} e => by rw [← eH] at e; exact scH_some e
  have none_of : ∀ {b : Addr}, (b = a → K.lookup a ≠ none) → H b = none := fun {b} h => by
    cases q : H b with
    | none => rfl
    | some u => exact absurd (hH q).2.1 (h (hH q).1)
  have dictH : ∀ {b : Addr} {ob : Obj} {es : Array DictEntry} {ep : Nat}, s₁.heap.get? b = some ob → ob.data = .dict es ep → H b = none := fun {b ob es ep} e d => none_of fun eb => by
    subst eb
    rw [ha] at e
    cases e
    rw [← eo] at d
    cases (show Data.seq vs.toArray _ = Data.dict es ep from d)
  have nsB : ∀ {b : Addr} {m : Str → Option Value}, s₁.heap.Ns b m → (hidT s₁.heap H).Ns b m := fun {b m} ⟨ob, es, ep, e, d, r⟩ => ⟨ob, es, ep, hidT_get e (dictH e d), d, r⟩
  have hKb : K.In (hidT s₁.heap H) := fun b ob e => hidT_get (KX b ob e) (none_of fun eb => by subst eb; rw [e]; exact fun z => nomatch z)
  have hM : Mod K mg (hidT s₁.heap H) := ⟨hKb, nsB hns, ⟨mb, nsB hb, hbb⟩, let ⟨mc, h1, h2⟩ := hlim; ⟨mc, nsB h1, h2⟩⟩
  have hok : HOk P w H s₁.heap := fun b u z => by
    obtain ⟨e1, _, e3⟩ := hH z
    subst e1 e3
    exact ⟨ha, by rw [List.length_map]; exact hl, vs, _, rv, by rw [ha, ← eo]⟩
  have e0 : Env0 P w K mg (hidT s₁.heap H) callerA [] s₁ H := ⟨rfl, hM, fun b ob e => of_hidT e, Nat.le_of_eq (hidT_size _ _), trivial, fun b hb => absurd (show b ∈ ([] : List Addr) from hb) (by simp), hok, .of_eq hg⟩
  have hF : Frl K H a (ns.map V.int) := by
    cases q : K.lookup a with
    | none => exact .inl ⟨o, by rw [← eH]; exact scH_at q⟩
    | some ob =>
      have e := KX a ob q
      rw [ha] at e
      cases e
      refine .inr ⟨_, vs.toArray, 0, q, by rw [← eo], by rw [← eo], by rw [← eo], by rw [List.size_toArray, lenV]; exact hl, by simpa using rv⟩
  refine codeAny_mono ((F _ hKb (nsB hns)).run callerA [] s₁ H ⟨[.ref a], []⟩ [.ref a] [.ref a] _ _ hr rfl e0 (hbind s₁ (.ref a)) (.cons rfl .nil) (hsp H hF)) fun r s' h => ?_
  cases r with
  | error e => exact (h : False).elim
  | ok fl =>
    cases fl with
    | next => exact False.elim h
    | brk => exact False.elim h
    | cont => exact False.elim h
    | ret u =>
      obtain ⟨v, H', os, bare, un, hok', r', q⟩ := h
      obtain rfl : v = .bl true := q
      obtain rfl : u = Value.bool true := r'
      refine ⟨rfl, OldK.of_keep fun b ob e => ?_, os, bare⟩
      cases q : H b with
      | none => exact un.keep b ob e q (by intro z; exact absurd (show b ∈ ([] : List Addr) from z) (by simp)) (by simp)
      | some u =>
        obtain ⟨e1, _, e3⟩ := hH q
        subst e3
        have z2 := un.frzs b _ _ q
        obtain ⟨f1, _⟩ := hok b _ q
        obtain ⟨f2, _⟩ := hok' b _ z2
        rw [e] at f1
        cases f1
        exact f2
end
/-- the script as a value of ours -/
theorem rep_script {c : Tx} {r : List Addr} {H : Hp} {a : Addr} {ns : List Int} (h : Frl c.K H a (ns.map V.int)) : RepD c r H (.s (.fl (ns.map T.int))) (.ref a) := by
  refine ⟨a, _, rfl, h, ?_⟩
  induction ns with
  | nil => rfl
  | cons n ns ih =>
    refine ⟨.int n, ns.map V.int, rfl, rfl, ?_⟩
    have : ∀ ms : List Int, RepTs c r H (ms.map T.int) (ms.map V.int) := fun ms => by
      induction ms with
      | nil => rfl
      | cons m ms ih => exact ⟨_, _, rfl, rfl, ih⟩
    exact this ns
theorem hrel_nil {c : Tx} {H : Hp} : HRel c [] [] H := ⟨rfl, .nil, fun n a o e => by simp at e⟩
/-- the law's promise from the evaluator -/
theorem sp_law {c : Tx} {n f : Nat} {a : Addr} {ns : List Int} {h : LH} (e : callF c.P n f [.s (.fl (ns.map T.int))] [] = .ok (.s (.bl true)) h) (H : Hp) (hF : Frl c.K H a (ns.map V.int)) : spF c n f [.ref a] H (fun v _ => v = .bl true) E0 := by
  refine ⟨[.s (.fl (ns.map T.int))], [], [], ⟨_, _, rfl, rep_script hF, rfl⟩, fun d hd => ?_, hrel_nil, ?_⟩
  · rw [List.mem_singleton.mp hd]; rfl
  · rw [e]
    exact fun v r' H' z hh ee => z.1
/-- the goal of a law behind its head -/
theorem walk_ofG {l : PySem.W.OpenLaw} {n k f : Nat} {q : Program} {loose : List Str} {XP : (Str → Option Value) → Heap → Prop} {YP : World → Heap → Prop} {d : DefRec} {x : Str}
    (hn : l.most = some n) (hn2 : n ≤ sizeLine) (hdf : d.params.defaults = []) (hr : Room k callerA)
    (F : ∀ (w : World) (mg : Str → Option Value) (fa : Addr) (h : Heap), YP w h → h.Ns mainGlobals mg → mg d.name = some (.ref fa) →
      ∃ (c : Tx) (df : Df) (fd : FuncData), c.mg = mg ∧ c.K.In h ∧ TxF c w ∧ c.P.df f = some df ∧ FnF c f df fa fd [x] ∧ (∀ (s : Shared) (u : Value), BindsTo s fd ⟨[u], []⟩ [(x, u)]) ∧
        ∀ ns : List Int, ns.length ≤ n → ∃ h', callF c.P k f [.s (.fl (ns.map T.int))] [] = .ok (.s (.bl true)) h') :
    PySem.W.WalkO q loose XP YP l.row.toRowW d [] (fun f vs => PySem.call f vs) := by
  refine Att.attach_call hn hdf fun w s₀ s₁ mg mb fa o pm cd doc a vs ns G Y ho hd hcd hmg hobj hints hlen hg => ?_
  obtain ⟨c, df, fd, e1, KX, T, hf, FF, hb, law⟩ := F w mg fa _ Y G.T.g hmg
  obtain ⟨h', el⟩ := law ns hlen
  refine law_endG (K := c.K) (sp := spF c k f) KX G.T.g G.T.b G.T.builtins G.T.nolimit hg hobj hints (Nat.le_trans hlen hn2) hr (fun base _ _ => ?_) hb fun H hF => sp_law el H hF
  rw [← e1]
  exact fn_all T k f df fa fd [x] hf FF
end Rm
set_option Elab.async false
set_option linter.all false
set_option autoImplicit false
set_option maxRecDepth 100000
set_option maxHeartbeats 2000000
/-! Soundness 27: a text's facts, behind its head. -/
namespace Rm
open PySem PySem.Spec PyProof.Rows L2
/-- a def of the text -/
structure Dt where
  id : Nat
  x : Str
  st : Stmt
  ps : List Str
  N : List Str
  df : Df
structure TxD where
  dts : List Dt
  gls : List (Nat × Str × T)
  gds : List (Nat × Str × List (T × T))
def Dt.d (t : Dt) : He.DefD := ⟨(t.x, none), t.x, t.x, defArgs t.st, defBody t.st, defScope t.st, [], []⟩
def nmOf (D : TxD) : Nm := { fn := fun i => ((D.dts.map fun t => (t.id, t.x)).lookup i).getD "", gn := fun i => (((D.gls.map fun g => (g.1, g.2.1)) ++ D.gds.map fun g => (g.1, g.2.1)).lookup i).getD "" }
def Dt.scB (t : Dt) : Bool := decide ((defScope t.st).kind = .function) && !(defScope t.st).isCoroutine && !(defScope t.st).isGenerator && decide t.N.Nodup && decide (t.N.take t.ps.length = t.ps) && (t.ps.all fun x => locB (defScope t.st) x) && ((defScope t.st).names.all fun y => decide (y.2 ≠ .free))
def Dt.okB (nm : Nm) (t : Dt) : Bool := t.scB && decide (t.ps.length = t.df.np) && decide (t.N.length = t.df.ns) && decide (nm.fn t.id = t.x) && mB nm t.N (defScope t.st) t.df.body (defBody t.st)
def BindP (t : Dt) : Prop := ∀ (kV doc pm : Value) (an : Option Addr) (cdv ct : Value) (us : List Value), us.length = t.ps.length → bindArgs (PySem.W.fnOf t.x t.x (defArgs t.st) (defBody t.st) (defScope t.st) .none kV doc pm an cdv ct) ⟨us, []⟩ = pure (t.ps.zip us)
mutual
def repU (K : PySem.W.Frag) : T → Value → Bool
  | .non, .none => true
  | .bl b, .bool d => b == d
  | .int i, .int j _ => decide (i = j)
  | .str s, .str z _ => decide ((⟨s.toArray⟩ : Str) = z) && sizeOk s.length
  | .tup xs, .ref a => match K.lookup a with
    | some ⟨.type n, _, .seq its _, _⟩ => decide (n = "tuple") && sizeOk its.size && repUs K xs its.toList && !mixB xs
    | _ => false
  | .fl xs, .ref a => match K.lookup a with
    | some ⟨.type n, none, .seq its _, _⟩ => decide (n = "list") && sizeOk its.size && repUs K xs its.toList
    | _ => false
  | _, _ => false
def repUs (K : PySem.W.Frag) : List T → List Value → Bool
  | [], [] => true
  | x :: xs, u :: us => repU K x u && repUs K xs us
  | _, _ => false
end
def glK (K : PySem.W.Frag) (x : Str) (t : T) : Bool := match PySem.W.nsIn K mainGlobals x with
  | some (some u) => repU K t u
  | _ => false
def entB (K : PySem.W.Frag) : List (T × T) → List DictEntry → Bool
  | [], [] => true
  | (.str z, t) :: kvs, e :: es => (match e.key with
    | .str y _ => decide ((⟨z.toArray⟩ : Str) = y)
    | _ => false) && repU K t e.val && entB K kvs es
  | _, _ => false
def gdK (K : PySem.W.Frag) (x : Str) (kvs : List (T × T)) : Bool := match PySem.W.nsIn K mainGlobals x with
  | some (some (.ref a)) => !(a == sysModules) && match K.lookup a with
    | some ⟨.type n, none, .dict es _, sl⟩ => decide (n = "dict") && sl.isEmpty && entB K kvs es.toList
    | _ => false
  | _ => false
def gdH (K : PySem.W.Frag) (x : Str) : List Int := match PySem.W.nsIn K mainGlobals x with
  | some (some (.ref a)) => match K.lookup a with
    | some ⟨_, _, .dict es _, _⟩ => es.toList.map (·.hash)
    | _ => []
  | _ => []
def keyS : T → Str
  | .str z => ⟨z.toArray⟩
  | _ => ""
def TxD.fa (D : TxD) : List He.Fa := (D.dts.map fun t => He.Fa.glo t.x) ++ bnames.map He.Fa.free
def TxD.fn (D : TxD) : List He.DefD := D.dts.map Dt.d
abbrev AlG : Type := He.AlD × Bool × List (List Int)
def obsG (D : TxD) (K : PySem.W.Frag) : AlG := (He.obsD D.fa D.fn K, (D.gls.all fun g => glK K g.2.1 g.2.2) && (D.gds.all fun g => gdK K g.2.1 g.2.2), D.gds.map fun g => gdH K g.2.1)
def valG (D : TxD) (P : Params) : AlG := (He.valD D.fn, true, D.gds.map fun g => g.2.2.map fun p => PyData.keyHash P (keyS p.1))
def obsGG (n : Nat) (D : TxD) (g : Addr → Option Obj) : AlG := obsG D (He.frG g (He.asD g n))
def hookG (n : Nat) (D : TxD) : PySem.W.Hook where
  α := AlG
  obs := fun s => obsGG n D s.heap.get?
  val := fun w => valG D w.params
  says := fun w h => ∃ K : PySem.W.Frag, K.In h ∧ obsG D K = valG D w.params
  of := fun _ _ e => ⟨_, He.frG_in, e⟩
  keeps := fun _ _ _ ⟨K, hK, c⟩ k => ⟨K, PySem.W.Frag.In.keeps hK k, c⟩
theorem obsGG_eq {n : Nat} {D : TxD} {g : Addr → Option Obj} {s : Shared} (h : ∀ a, g a = s.heap.get? a) : obsGG n D g = (hookG n D).obs s := by
  have e : g = s.heap.get? := funext h
  rw [e] <;> rfl
section
variable {K : PySem.W.Frag} {c : Tx}
mutual
theorem repU_ok (eK : c.K = K) : ∀ (t : T) (u : Value), repU K t u = true → ∃ v, RelV v u ∧ ∀ r H, RepT c r H t v
  | .non, u, h => by
    cases u with
    | none => exact ⟨.non, rfl, fun _ _ => rfl⟩
    | _ => cases h
  | .bl b, u, h => by
    cases u with
    | bool d => have := eq_of_beq h; subst this; exact ⟨.bl b, rfl, fun _ _ => rfl⟩
    | _ => cases h
  | .int i, u, h => by
    cases u with
    | int j k => have := of_decide_eq_true h; subst this; exact ⟨.int i, ⟨k, rfl⟩, fun _ _ => rfl⟩
    | _ => cases h
  | .str s, u, h => by
    cases u with
    | str z k =>
      obtain ⟨h1, h2⟩ := Bool.and_eq_true_iff.mp h
      have := of_decide_eq_true h1
      subst this
      exact ⟨.str _, ⟨k, rfl⟩, fun _ _ => ⟨rfl, sizeOk_le h2⟩⟩
    | _ => cases h
  | .tup xs, u, h => by
    cases u with
    | ref a =>
      unfold repU at h
      cases q : K.lookup a with
      | none => rw [q] at h; cases h
      | some o =>
        obtain ⟨oc, od, dt, osl⟩ := o
        rw [q] at h
        cases oc <;> first | (cases dt <;> cases h; done) | skip
        cases dt <;> first | (cases h; done) | skip
        rename_i n its m
        simp only [Bool.and_eq_true] at h
        obtain ⟨⟨⟨h1, h2⟩, h3⟩, h4⟩ := h
        obtain ⟨vs, r1, r2⟩ := repUs_ok eK xs its.toList h3
        have h1 := of_decide_eq_true h1
        subst h1
        exact ⟨.ref a, rfl, fun r H => ⟨a, vs, rfl, ⟨.inr ⟨_, its, m, by rw [eK]; exact q, rfl, rfl, sizeOk_le h2, r1⟩, fun z => by rw [z] at h4; cases h4⟩, r2 r H⟩⟩
    | _ => cases h
  | .fl xs, u, h => by
    cases u with
    | ref a =>
      unfold repU at h
      cases q : K.lookup a with
      | none => rw [q] at h; cases h
      | some o =>
        obtain ⟨oc, od, dt, osl⟩ := o
        rw [q] at h
        cases oc <;> first | (cases od <;> cases dt <;> cases h; done) | skip
        cases od <;> first | (cases dt <;> cases h; done) | skip
        cases dt <;> first | (cases h; done) | skip
        rename_i n its m
        simp only [Bool.and_eq_true] at h
        obtain ⟨⟨h1, h2⟩, h3⟩ := h
        obtain ⟨vs, r1, r2⟩ := repUs_ok eK xs its.toList h3
        have h1 := of_decide_eq_true h1
        subst h1
        exact ⟨.ref a, rfl, fun r H => ⟨a, vs, rfl, .inr ⟨_, its, m, by rw [eK]; exact q, rfl, rfl, rfl, sizeOk_le h2, r1⟩, r2 r H⟩⟩
    | _ => cases h
  | .ref n, u, h => by cases u <;> cases h
  | .fn n, u, h => by cases u <;> cases h
theorem repUs_ok (eK : c.K = K) : ∀ (xs : List T) (us : List Value), repUs K xs us = true → ∃ vs, Vals vs us ∧ ∀ r H, RepTs c r H xs vs
  | [], us, h => by
    cases us with
    | nil => exact ⟨[], .nil, fun _ _ => rfl⟩
    | cons _ _ => cases h
  | x :: xs, us, h => by
    cases us with
    | nil => cases h
    | cons u us =>
      unfold repUs at h
      obtain ⟨h1, h2⟩ := Bool.and_eq_true_iff.mp h
      obtain ⟨v, r1, r2⟩ := repU_ok eK x u h1
      obtain ⟨vs, r3, r4⟩ := repUs_ok eK xs us h2
      exact ⟨v :: vs, .cons r1 r3, fun r H => ⟨v, vs, rfl, r2 r H, r4 r H⟩⟩
end
theorem ent_ok (eK : c.K = K) {P : Params} : ∀ (kvs : List (T × T)) (es : List DictEntry), entB K kvs es = true → es.map (·.hash) = kvs.map (fun p => PyData.keyHash P (keyS p.1)) →
    PySem.W.KeysLit P es ∧ (∀ z : List Nat, (∃ t u v, lookT (.str z) kvs = some t ∧ (es.find? (·.key.isStr ⟨z.toArray⟩)) = some u ∧ RelV v u.val ∧ ∀ r H, RepT c r H t v) ∨ (lookT (.str z) kvs = none ∧ es.find? (·.key.isStr ⟨z.toArray⟩) = none)) ∧ es.any (·.refKey) = false
  | [], es, h, hh => by
    cases es with
    | nil => exact ⟨True.intro, fun z => .inr ⟨rfl, rfl⟩, rfl⟩
    | cons _ _ => cases h
  | (k, t) :: kvs, es, h, hh => by
    cases es with
    | nil => cases k <;> cases h
    | cons e es =>
      cases k with
      | str y =>
        unfold entB at h
        simp only [Bool.and_eq_true] at h
        obtain ⟨⟨h1, h2⟩, h3⟩ := h
        rw [List.map_cons, List.map_cons] at hh
        obtain ⟨e1, e2⟩ := List.cons.inj hh
        obtain ⟨i1, i2, i3⟩ := ent_ok eK (P := P) kvs es h3 e2
        obtain ⟨eh, ek, ev⟩ := e
        cases ek with
        | str y' tk =>
          have h1 := of_decide_eq_true h1
          subst h1
          refine ⟨⟨⟨_, tk, rfl, e1⟩, i1⟩, fun z => ?_, ?_⟩
          · by_cases hz : y = z
            · subst hz
              obtain ⟨v, r1, r2⟩ := repU_ok eK t ev h2
              refine .inl ⟨t, ⟨eh, .str ⟨y.toArray⟩ tk, ev⟩, v, by unfold lookT; rw [if_pos rfl], ?_, r1, r2⟩
              rw [List.find?_cons_of_pos]
              show (({ cps := y.toArray } : Str) == { cps := y.toArray }) = true
              exact beq_self_eq_true _
            · have hn : ((({ cps := y.toArray } : Str) == { cps := z.toArray })) = false := by
                rw [beq_eq_false_iff_ne]
                intro e
                apply hz
                have := congrArg (fun s : Str => s.cps.toList) e
                simpa using this
              have hl : lookT (.str z) ((.str y, t) :: kvs) = lookT (.str z) kvs := by
                conv => lhs; unfold lookT
                rw [if_neg (fun e => hz (by injection e))]
              rw [hl, List.find?_cons_of_neg (by show ¬ ((({ cps := y.toArray } : Str) == { cps := z.toArray })) = true; rw [hn]; exact Bool.false_ne_true)]
              exact i2 z
          · rw [List.any_cons, i3, Bool.or_false]
            rfl
        | _ => cases h1
      | _ => cases h
theorem txf_of {D : TxD} {P : Pg} {w : World} {h : Heap} {mg : Str → Option Value} (hP : ∀ f d, P.df f = some d → ∃ t ∈ D.dts, t.id = f ∧ t.df = d) (hg : ∀ k t, P.gl k = some t → ∃ g ∈ D.gls, g.1 = k ∧ g.2.2 = t) (hd : ∀ k kvs, P.gd k = some kvs → ∃ g ∈ D.gds, g.1 = k ∧ g.2.2 = kvs)
    (ok : ∀ t ∈ D.dts, t.okB (nmOf D) = true) (okg : (D.gls.all fun g => decide ((nmOf D).gn g.1 = g.2.1)) = true) (okd : (D.gds.all fun g => decide ((nmOf D).gn g.1 = g.2.1)) = true) (bp : ∀ t ∈ D.dts, BindP t)
    (X : K.In h) (G : h.Ns mainGlobals mg) (e : obsG D K = valG D w.params) :
    TxF ⟨P, nmOf D, K, mg⟩ w ∧ ∀ t ∈ D.dts, ∃ fd, FnF ⟨P, nmOf D, K, mg⟩ t.id t.df (He.ga K t.x) fd t.ps ∧ FunD K t.x t.x (defArgs t.st) (defBody t.st) (defScope t.st) [] [] (He.ga K t.x) fd ∧ mg t.x = some (.ref (He.ga K t.x)) := by
  have e1 : He.SaysD D.fa D.fn K := congrArg (fun z : AlG => z.1) e
  have e2 : ((D.gls.all fun g => glK K g.2.1 g.2.2) && (D.gds.all fun g => gdK K g.2.1 g.2.2)) = true := congrArg (fun z : AlG => z.2.1) e
  have e3 : (D.gds.map fun g => gdH K g.2.1) = D.gds.map fun g => g.2.2.map fun p => PyData.keyHash w.params (keyS p.1) := congrArg (fun z : AlG => z.2.2) e
  obtain ⟨e4, e5⟩ := Bool.and_eq_true_iff.mp e2
  have fact : ∀ f ∈ D.fa, f.ok K = true := fun f hf => by
    obtain ⟨i, hi⟩ := List.mem_iff_getElem?.mp hf
    exact e1.fact i hi
  have fns : ∀ t ∈ D.dts, ∃ fd, FnF ⟨P, nmOf D, K, mg⟩ t.id t.df (He.ga K t.x) fd t.ps ∧ FunD K t.x t.x (defArgs t.st) (defBody t.st) (defScope t.st) [] [] (He.ga K t.x) fd ∧ mg t.x = some (.ref (He.ga K t.x)) := fun t ht => by
    have hf : t.d ∈ D.fn := List.mem_map_of_mem ht
    obtain ⟨i, hi⟩ := List.mem_iff_getElem?.mp hf
    obtain ⟨fd, FD⟩ := e1.def_ i hi
    have FD : FunD K t.x t.x (defArgs t.st) (defBody t.st) (defScope t.st) [] [] (He.ga K t.x) fd := FD
    have o := ok t ht
    unfold Dt.okB at o
    simp only [Bool.and_eq_true, decide_eq_true_eq] at o
    obtain ⟨⟨⟨⟨o1, o2⟩, o3⟩, o4⟩, o5⟩ := o
    have sc : FnScope t.N t.ps (defScope t.st) := by
      unfold Dt.scB at o1
      simp only [Bool.and_eq_true, decide_eq_true_eq, Bool.not_eq_true', List.all_eq_true] at o1
      obtain ⟨⟨⟨⟨⟨⟨a1, a2⟩, a3⟩, a4⟩, a5⟩, a6⟩, a7⟩ := o1
      exact ⟨a1, a2, a3, a4, a5, fun x hx => loc_of (a6 x hx), fun y hy => a7 y hy⟩
    have gl := He.glo_ok X G (fact (.glo t.x) (List.mem_append_left _ (List.mem_map.mpr ⟨t, ht, rfl⟩)))
    refine ⟨fd, ⟨⟨t.x, t.x, _, _, _, t.N, FD, sc, o2, o3, o5⟩, by show mg ((nmOf D).fn t.id) = _; rw [o4]; exact gl, FD.kp, FD.bindsN (bp t ht)⟩, FD, gl⟩
  refine ⟨⟨fun f d hf => ?_, ⟨fun x hx => ?_, fun k t hk => ?_⟩, fun k kvs hk => ?_⟩, fns⟩
  · obtain ⟨t, ht, rfl, rfl⟩ := hP f d hf
    obtain ⟨fd, F, _⟩ := fns t ht
    exact ⟨_, fd, _, F⟩
  · exact He.free_ok X G (fact (.free x) (List.mem_append_right _ (List.mem_map_of_mem hx)))
  · obtain ⟨g, hm, rfl, rfl⟩ := hg k t hk
    have o := List.all_eq_true.mp e4 g hm
    have on := of_decide_eq_true (List.all_eq_true.mp okg g hm)
    unfold glK at o
    split at o
    · rename_i u hu
      obtain ⟨v, r1, r2⟩ := repU_ok (c := ⟨P, nmOf D, K, mg⟩) rfl g.2.2 u o
      exact ⟨u, v, by show mg ((nmOf D).gn g.1) = _; rw [on]; exact PySem.W.mg_of X G hu, r1, r2⟩
    · cases o
  · obtain ⟨g, hm, rfl, rfl⟩ := hd k kvs hk
    have o := List.all_eq_true.mp e5 g hm
    have on := of_decide_eq_true (List.all_eq_true.mp okd g hm)
    have hs : gdH K g.2.1 = g.2.2.map fun p => PyData.keyHash w.params (keyS p.1) := by
      obtain ⟨i, hi⟩ := List.mem_iff_getElem?.mp hm
      have := congrArg (fun l => l[i]?) e3
      simp only [List.getElem?_map, hi, Option.map_some] at this
      exact Option.some.inj this
    unfold gdK at o
    unfold gdH at hs
    cases q0 : PySem.W.nsIn K mainGlobals g.2.1 with
    | none => rw [q0] at o; cases o
    | some ou =>
      cases ou with
      | none => rw [q0] at o; cases o
      | some u =>
        cases u with
        | ref a =>
          rw [q0] at o hs
          simp only at hs
          simp only [Bool.and_eq_true, Bool.not_eq_true'] at o
          obtain ⟨o1, o2⟩ := o
          cases q : K.lookup a with
          | none => rw [q] at o2; cases o2
          | some ob =>
            obtain ⟨oc, od, dt, osl⟩ := ob
            rw [q] at o2 hs
            cases oc <;> first | (cases od <;> cases dt <;> cases o2; done) | skip
            cases od <;> first | (cases dt <;> cases o2; done) | skip
            cases dt <;> first | (cases o2; done) | skip
            rename_i nn es m
            simp only [Bool.and_eq_true] at o2
            obtain ⟨⟨p1, p2⟩, p3⟩ := o2
            have p1 := of_decide_eq_true p1
            subst p1
            have p2' : osl = #[] := by simpa using p2
            subst p2'
            obtain ⟨i1, i2, i3⟩ := ent_ok (c := ⟨P, nmOf D, K, mg⟩) (P := w.params) rfl g.2.2 es.toList p3 hs
            refine ⟨a, by show mg ((nmOf D).gn g.1) = _; rw [on]; exact PySem.W.mg_of X G q0, ⟨es, m, q, i1⟩, o1, fun z => ?_⟩
            have ns : PySem.W.nsIn K a ⟨z.toArray⟩ = match es.toList.find? (·.key.isStr ⟨z.toArray⟩) with
              | some e => some (some e.val)
              | none => if es.toList.any (·.refKey) then none else some none := by
              unfold PySem.W.nsIn
              rw [q]
              rfl
            rcases i2 z with ⟨t, u, v, f1, f2, f3, f4⟩ | ⟨f1, f2⟩
            · exact .inl ⟨t, u.val, v, f1, by rw [ns, f2], f3, f4⟩
            · exact .inr ⟨f1, by rw [ns, f2, i3]; rfl⟩
        | _ => rw [q0] at o; cases o
end
end Rm
set_option Elab.async false
set_option linter.all false
set_option autoImplicit false
set_option maxRecDepth 100000
/-! Soundness 28: a law from its evaluation. -/
namespace Rm
open PySem PySem.Spec PyProof.Rows L2
theorem lk_map {α β : Type} {l : List α} {g : α → Nat × β} {f : Nat} {d : β} (h : (l.map g).lookup f = some d) : ∃ t ∈ l, (g t).1 = f ∧ (g t).2 = d := by
  induction l with
  | nil => cases h
  | cons a l ih =>
    rw [List.map_cons] at h
    have e : g a = ((g a).1, (g a).2) := rfl
    rw [e, List.lookup_cons] at h
    split at h
    · rename_i hb
      cases h
      exact ⟨a, List.mem_cons_self .., (eq_of_beq hb).symm, rfl⟩
    · obtain ⟨t, ht, r⟩ := ih h
      exact ⟨t, List.mem_cons_of_mem _ ht, r⟩
/-- the evaluator's program is the text's -/
structure PgOk (D : TxD) (P : Pg) : Prop where
  df : ∀ f d, P.df f = some d → ∃ t ∈ D.dts, t.id = f ∧ t.df = d
  gl : ∀ k t, P.gl k = some t → ∃ g ∈ D.gls, g.1 = k ∧ g.2.2 = t
  gd : ∀ k kvs, P.gd k = some kvs → ∃ g ∈ D.gds, g.1 = k ∧ g.2.2 = kvs
  ok : ∀ t ∈ D.dts, t.okB (nmOf D) = true
  okg : (D.gls.all fun g => decide ((nmOf D).gn g.1 = g.2.1)) = true
  okd : (D.gds.all fun g => decide ((nmOf D).gn g.1 = g.2.1)) = true
  bp : ∀ t ∈ D.dts, BindP t
theorem law_of {D : TxD} {P : Pg} {K : PySem.W.Frag} {w : World} {h : Heap} {mg : Str → Option Value} {fa : Addr} {t : Dt} {x : Str} {n k : Nat} (O : PgOk D P) (X : K.In h) (G : h.Ns mainGlobals mg) (e : obsG D K = valG D w.params) (ht : t ∈ D.dts) (hx : t.ps = [x]) (hd : P.df t.id = some t.df) (hmg : mg t.x = some (.ref fa))
    (law : ∀ ns : List Int, ns.length ≤ n → ∃ h', callF P k t.id [.s (.fl (ns.map T.int))] [] = .ok (.s (.bl true)) h') :
    ∃ (c : Tx) (df : Df) (fd : FuncData), c.mg = mg ∧ c.K.In h ∧ TxF c w ∧ c.P.df t.id = some df ∧ FnF c t.id df fa fd [x] ∧ (∀ (s : Shared) (u : Value), BindsTo s fd ⟨[u], []⟩ [(x, u)]) ∧
      ∀ ns : List Int, ns.length ≤ n → ∃ h', callF c.P k t.id [.s (.fl (ns.map T.int))] [] = .ok (.s (.bl true)) h' := by
  obtain ⟨TF, fns⟩ := txf_of O.df O.gl O.gd O.ok O.okg O.okd O.bp X G e
  obtain ⟨fd, F, FD, hm⟩ := fns t ht
  rw [hmg] at hm
  cases hm
  refine ⟨⟨P, nmOf D, K, mg⟩, t.df, fd, rfl, X, TF, hd, by rw [← hx]; exact F, fun s u => ?_, law⟩
  have b := FunD.bindsA (ps := t.ps) FD (O.bp t ht) s [u] (by rw [hx]; rfl)
  rw [hx] at b
  exact b
end Rm
set_option Elab.async false
set_option linter.all false
set_option autoImplicit false
set_option maxRecDepth 100000
/-! One step of the evaluator each, as equations. -/
namespace Rm
section
variable (P : Pg) (G : Nat → List D → LH → R D) (s : Sg) (h : LH)
theorem ev_c (t : T) : evE P G (.c t) s h = .ok (.s t) h := by rw [evE]
theorem ev_v (i : Nat) : evE P G (.v i) s h = match s[i]? with
    | some (some d) => .ok (lend d) h
    | _ => .bad := by rw [evE] <;> rfl
theorem ev_g (k : Nat) : evE P G (.g k) s h = match P.gl k with
    | some t => .ok (.s t) h
    | none => .bad := by rw [evE] <;> rfl
theorem ev_neg (a : Ex) : evE P G (.neg a) s h = (evE P G a s h).bd fun x h1 => match x with
    | .s (.int i) => .ok (.s (.int (-i))) h1
    | _ => .bad := by rw [evE] <;> rfl
theorem ev_bin (op : Bop) (a b : Ex) : evE P G (.bin op a b) s h = (evE P G a s h).bd fun x h1 => (evE P G b s h1).bd fun y h2 => toR (binD op x y h2) h2 := by rw [evE]
theorem ev_cmp (op : Cop) (a b : Ex) : evE P G (.cmp op a b) s h = (evE P G a s h).bd fun x h1 => (evE P G b s h1).bd fun y h2 => (toR (cmpD op x y h2) h2).bd fun b h3 => .ok (.s (.bl b)) h3 := by rw [evE]
theorem ev_chn (p q : Cop) (a b c : Ex) : evE P G (.chn p q a b c) s h = (evE P G a s h).bd fun x h1 => (evE P G b s h1).bd fun y h2 => (toR (cmpD p x y h2) h2).bd fun r h3 =>
    if r then (evE P G c s h3).bd fun z h4 => (toR (cmpD q y z h4) h4).bd fun r' h5 => .ok (.s (.bl r')) h5 else .ok (.s (.bl false)) h3 := by rw [evE]
theorem ev_not (a : Ex) : evE P G (.not a) s h = (evE P G a s h).bd fun x h1 => (truD x h1).bd fun b h2 => .ok (.s (.bl (!b))) h2 := by rw [evE]
theorem ev_and (es : List Ex) : evE P G (.and es) s h = evN P G true es s h := by rw [evE]
theorem ev_or (es : List Ex) : evE P G (.or es) s h = evN P G false es s h := by rw [evE]
theorem evN_1 (op : Bool) (e : Ex) : evN P G op [e] s h = evE P G e s h := by rw [evN]
theorem evN_2 (op : Bool) (e e' : Ex) (es : List Ex) : evN P G op (e :: e' :: es) s h = (evE P G e s h).bd fun x h1 => (truD x h1).bd fun c h2 => if c = op then evN P G op (e' :: es) s h2 else .ok (.s (.bl c)) h2 := by rw [evN]
theorem ev_ite (c a b : Ex) : evE P G (.ite c a b) s h = (evE P G c s h).bd fun x h1 => (truD x h1).bd fun r h2 => if r then evE P G a s h2 else evE P G b s h2 := by rw [evE]
theorem ev_tup (es : List Ex) : evE P G (.tup es) s h = (evT P G es s h).bd fun ts h1 => if sizeOk ts.length then .ok (.s (.tup ts)) h1 else .bad := by rw [evE]
theorem ev_lst (es : List Ex) : evE P G (.lst es) s h = (evT P G es s h).bd fun ts h1 => if sizeOk ts.length then .ok (.tl ts) h1 else .bad := by rw [evE]
theorem ev_ix (a i : Ex) : evE P G (.ix a i) s h = (evE P G a s h).bd fun x h1 => (evE P G i s h1).bd fun y h2 => toR (ixD x y h2) h2 := by rw [evE]
theorem ev_call (f : Nat) (as : List Ex) : evE P G (.call f as) s h = (evA P G as s h).bd fun ds h1 => G f ds h1 := by rw [evE]
theorem ev_bi (b : Bi) (as : List Ex) : evE P G (.bi b as) s h = (evL P G as s h).bd fun ds h1 => toR (biD b ds h1) h1 := by rw [evE]
theorem ev_isi (a : Ex) (ts : List Ty) : evE P G (.isi a ts) s h = (evE P G a s h).bd fun x h1 => (toR (isiD x ts h1) h1).bd fun b h2 => .ok (.s (.bl b)) h2 := by rw [evE]
theorem ev_gin (neg : Bool) (a : Ex) (k : Nat) : evE P G (.gin neg a k) s h = (evE P G a s h).bd fun x h1 => match x with
    | .s (.str z) => match P.gd k with
      | some kvs => .ok (.s (.bl (if neg then !(lookT (.str z) kvs).isSome else (lookT (.str z) kvs).isSome))) h1
      | none => .bad
    | _ => .bad := by rw [evE] <;> rfl
theorem ev_gix (k : Nat) (a : Ex) : evE P G (.gix k a) s h = (evE P G a s h).bd fun x h1 => match x with
    | .s (.str z) => match P.gd k with
      | some kvs => (toR (lookT (.str z) kvs) h1).bd fun t h2 => .ok (.s t) h2
      | none => .bad
    | _ => .bad := by rw [evE] <;> rfl
theorem ev_sl (a : Ex) (lo hi : Option Ex) : evE P G (.sl a lo hi) s h = (evE P G a s h).bd fun x h1 => (evO P G lo s h1).bd fun l h2 => (evO P G hi s h2).bd fun u h3 => toR (slD x l u h3) h3 := by rw [evE]
theorem evO_0 : evO P G none s h = .ok none h := by rw [evO]
theorem evO_1 (e : Ex) : evO P G (some e) s h = (evE P G e s h).bd fun d h1 => match d with
    | .s (.int i) => .ok (some i) h1
    | _ => .bad := by rw [evO] <;> rfl
theorem evA_0 : evA P G [] s h = .ok [] h := by rw [evA]
theorem evA_c (e : Ex) (es : List Ex) : evA P G (e :: es) s h = (evE P G e s h).bd fun d h1 => (evA P G es s h1).bd fun ds h2 => .ok (lend d :: ds) h2 := by rw [evA]
theorem evL_0 : evL P G [] s h = .ok [] h := by rw [evL]
theorem evL_c (e : Ex) (es : List Ex) : evL P G (e :: es) s h = (evE P G e s h).bd fun d h1 => (evL P G es s h1).bd fun ds h2 => .ok (d :: ds) h2 := by rw [evL]
theorem evT_0 : evT P G [] s h = .ok [] h := by rw [evT]
theorem evT_c (e : Ex) (es : List Ex) : evT P G (e :: es) s h = (evE P G e s h).bd fun d h1 => (fix d h1).bd fun t h2 => (evT P G es s h2).bd fun ts h3 => .ok (t :: ts) h3 := by rw [evT]
theorem evB_0 : evB P G [] s h = .nx s h := by rw [evB]
theorem evB_c (x : Sx) (xs : List Sx) : evB P G (x :: xs) s h = match evS P G x s h with
    | .nx s' h' => evB P G xs s' h'
    | f => f := by rw [evB] <;> rfl
theorem es_set (own : Bool) (i : Nat) (e : Ex) : evS P G (.set own i e) s h = (evE P G e s h).fl fun d h1 => (keep own d h1).fl fun d' h2 => .nx (s.set i (some d')) h2 := by rw [evS]
theorem es_iff (c : Ex) (a b : List Sx) : evS P G (.iff c a b) s h = (evE P G c s h).fl fun d h1 => (truD d h1).fl fun r h2 => if r then evB P G a s h2 else evB P G b s h2 := by rw [evS]
theorem es_ret (e : Ex) : evS P G (.ret e) s h = (evE P G e s h).fl fun d h1 => match d with
    | .vw _ => .bad
    | .dv _ _ => .bad
    | d => .ret d h1 := by rw [evS] <;> rfl
end
theorem lc_map {h : LH} {f : T → LH → R (Option T)} {gd : LH → Bool} {g : T → T} (hg : gd h = true) : ∀ (xs acc : List T), (∀ x ∈ xs, f x h = .ok (some (g x)) h) → lcL f gd xs acc h = .ok (acc ++ xs.map g) h
  | [], acc, _ => by simp [lcL, hg]
  | x :: xs, acc, hf => by
    unfold lcL
    rw [if_pos hg, hf x (List.mem_cons_self ..)]
    simp only
    rw [lc_map hg xs (acc ++ [g x]) fun y hy => hf y (List.mem_cons_of_mem _ hy)]
    simp
/-- a comprehension with no test over things that stay, whose items are data and leave the heap as it is -/
theorem ev_lc {P : Pg} {G : Nat → List D → LH → R D} {s : Sg} {h : LH} {elt : Ex} {tg : Tg} {it : Ix} {own : List Nat} {xs : List T} {g : T → T} (hi : evI P G it s h = .ok (xs, []) h) (hx : ∀ x ∈ xs, ∃ s', bindG tg x (wipG s own) = some s' ∧ evE P G elt s' h = .ok (.s (g x)) h) :
    evE P G (.lc elt tg it [] own) s h = .ok (.tl (xs.map g)) h := by
  rw [evE, hi, bd_ok]
  generalize ef : (fun (x : T) (h : LH) => (match bindG tg x (wipG s own) with
      | some s' => (evC P G [] s' h).bd fun b h2 => if b then (evE P G elt s' h2).bd fun d h3 => (fix d h3).bd fun t h4 => R.ok (some t) h4 else R.ok none h2
      | none => R.bad : R (Option T))) = f
  have z : ∀ x ∈ xs, f x h = .ok (some (g x)) h := fun x hxx => by
    obtain ⟨s', b1, b2⟩ := hx x hxx
    have ec : evC P G [] s' h = .ok true h := by rw [evC]
    rw [← ef]
    simp only [b1, ec, bd_ok, if_true, b2, fix]
  have q : lcL f (stay [] h) xs [] h = .ok ([] ++ xs.map g) h := lc_map (stay_nil h h) xs [] z
  have e : (R.bd (lcL f (stay [] h) xs [] h) fun ts h5 => R.ok (D.tl ts) h5) = .ok (.tl (xs.map g)) h := by rw [q, bd_ok]; simp
  rw [← e, ← ef]
end Rm
set_option Elab.async false
set_option linter.all false
set_option autoImplicit false
set_option maxRecDepth 100000
/-! What holds behind a run: W; the shape in which a body is run by simp (k: a rest that simp leaves alone until its turn). -/
namespace Rm
structure Fx {α : Sort _} (a : α) : Type where
abbrev fx {α : Sort _} {a : α} : Fx a := ⟨⟩
def R.k {α β : Type} (r : R α) (f : α → LH → R β) (_ : Fx f) : R β := r.bd f
def R.kf {α : Type} (r : R α) (f : α → LH → F) (_ : Fx f) : F := r.fl f
def F.sq (f : F) (k : Sg → LH → F) : F := match f with
  | .nx s h => k s h
  | f => f
def F.k (f : F) (k : Sg → LH → F) (_ : Fx k) : F := f.sq k
def bk {α : Type} (c : Bool) (a b : α) (_ : Fx a) (_ : Fx b) : α := if c = true then a else b
def F.rt (f : F) : R D := match f with
  | .nx _ h => .ok (.s .non) h
  | .ret r h => .ok r h
  | .exc x h => .exc x h
  | _ => .bad
/-! small matches by names -/
def vOf (o : Option (Option D)) (h : LH) : R D := match o with
  | some (some d) => .ok (lend d) h
  | _ => .bad
def gOf (o : Option T) (h : LH) : R D := match o with
  | some t => .ok (.s t) h
  | none => .bad
def negOf (x : D) (h1 : LH) : R D := match x with
  | .s (.int i) => .ok (.s (.int (-i))) h1
  | _ => .bad
def fnOf (o : Option (Option D)) (h : LH) : R Nat := match o with
  | some (some (.s (.fn f))) => .ok f h
  | _ => .bad
def ginOf (neg : Bool) (x : D) (o : Option (List (T × T))) (h1 : LH) : R D := match x with
  | .s (.str z) => match o with
    | some kvs => .ok (.s (.bl (if neg then !(lookT (.str z) kvs).isSome else (lookT (.str z) kvs).isSome))) h1
    | none => .bad
  | _ => .bad
def gixOf (x : D) (o : Option (List (T × T))) (h1 : LH) : R D := match x with
  | .s (.str z) => match o with
    | some kvs => (toR (lookT (.str z) kvs) h1).bd fun t h2 => .ok (.s t) h2
    | none => .bad
  | _ => .bad
def oiOf (d : D) (h1 : LH) : R (Option Int) := match d with
  | .s (.int i) => .ok (some i) h1
  | _ => .bad
def unpOf (tg : Tg) (d : D) (s : Sg) (h1 : LH) : F := match d with
  | .s t => match bindG tg t s with
    | some s' => .nx s' h1
    | none => .bad
  | _ => .bad
def parOf (o : Option Sg) (h1 : LH) : F := match o with
  | some s' => .nx s' h1
  | none => .bad
def putOf (p : Pl) (kd : D) (t : T) (s : Sg) (h4 : LH) : F := match kd with
  | .s kt => chg p s h4 (fPut kt t)
  | _ => .bad
def sdfOf (p : Pl) (kd : D) (t : T) (s : Sg) (h4 : LH) : F := match kd with
  | .s kt => chg p s h4 (fSdf kt t)
  | _ => .bad
def augOf (P : Pg) (G : Nat → List D → LH → R D) (o : Option (Option D)) (i : Nat) (op : Bop) (e : Ex) (s : Sg) (h : LH) : F := match o with
  | some (some (.s a)) => (evE P G e s h).fl fun d h1 => (toR (binD op (.s a) d h1) h1).fl fun r h2 => match r with
    | .s t => .nx (s.set i (some (.s t))) h2
    | _ => .bad
  | _ => .bad
def retOf (d : D) (h1 : LH) : F := match d with
  | .vw _ => .bad
  | .dv _ _ => .bad
  | d => .ret d h1
def rtvOf (o : Option (Option D)) (h : LH) : F := match o with
  | some (some d) => match d with
    | .vw _ => .bad
    | .dv _ _ => .bad
    | d => .ret d h
  | _ => .bad
def plV (i : Nat) (o : Option (Option D)) (h : LH) : R Pl := match o with
  | some (some (.tl _)) => .ok (.own i) h
  | some (some (.dt _ _)) => .ok (.own i) h
  | some (some (.s (.ref n))) => .ok (.at n) h
  | _ => .bad
def plR (d : D) (h1 : LH) : R Pl := match d with
  | .s (.ref n) => .ok (.at n) h1
  | _ => .bad
/-- one item of a comprehension -/
def lcB (P : Pg) (G : Nat → List D → LH → R D) (elt : Ex) (tg : Tg) (cnd : List Ex) (own : List Nat) (s : Sg) (x : T) (h : LH) : R (Option T) := match bindG tg x (wipG s own) with
      | some s' => (evC P G cnd s' h).bd fun b h2 => if b then (evE P G elt s' h2).bd fun d h3 => (fix d h3).bd fun t h4 => .ok (some t) h4 else .ok none h2
      | none => .bad
def lcK (P : Pg) (G : Nat → List D → LH → R D) (elt : Ex) (tg : Tg) (cnd : List Ex) (own : List Nat) (s : Sg) (gs : List Nat) (h1 : LH) (xs acc : List T) (h : LH) : R (List T) :=
  lcL (lcB P G elt tg cnd own s) (stay gs h1) xs acc h
/-- one turn of a loop -/
def forB (P : Pg) (G : Nat → List D → LH → R D) (tg : Tg) (body : List Sx) (x : T) (s : Sg) (h : LH) : F := match bindG tg x s with
      | some s' => evB P G body s' h
      | none => .bad
def forK (P : Pg) (G : Nat → List D → LH → R D) (tg : Tg) (body : List Sx) (gs : List Nat) (h1 : LH) (xs : List T) (s : Sg) (h : LH) : F :=
  forL (forB P G tg body) (stay gs h1) xs s h
def whlC (P : Pg) (G : Nat → List D → LH → R D) (c : Ex) (s : Sg) (h : LH) : R Bool := (evE P G c s h).bd fun d h1 => truD d h1
def whlK (P : Pg) (G : Nat → List D → LH → R D) (c : Ex) (body : List Sx) (n : Nat) (s : Sg) (h : LH) : F :=
  whlL (whlC P G c) (fun s h => evB P G body s h) n s h
/-! ### what simp does with the rests -/
theorem k_ok {α β : Type} (a : α) (h : LH) (f : α → LH → R β) (t : Fx f) : (R.ok a h).k f t = f a h := rfl
theorem k_bad {α β : Type} (f : α → LH → R β) (t : Fx f) : (R.bad).k f t = .bad := rfl
theorem k_k {α β γ : Type} (r : R α) (f : α → LH → R β) (t : Fx f) (g : β → LH → R γ) (u : Fx g) : (r.k f t).k g u = r.k (fun a h => (f a h).k g u) fx := by
  cases r <;> rfl
theorem kf_ok {α : Type} (a : α) (h : LH) (f : α → LH → F) (t : Fx f) : (R.ok a h).kf f t = f a h := rfl
theorem kf_k {α β : Type} (r : R α) (f : α → LH → R β) (t : Fx f) (g : β → LH → F) (u : Fx g) : (r.k f t).kf g u = r.kf (fun a h => (f a h).kf g u) fx := by
  cases r <;> rfl
theorem fk_nx (s : Sg) (h : LH) (k : Sg → LH → F) (t : Fx k) : (F.nx s h).k k t = k s h := rfl
theorem fk_ret (d : D) (h : LH) (k : Sg → LH → F) (t : Fx k) : (F.ret d h).k k t = .ret d h := rfl
theorem fk_ct (d : Sg) (h : LH) (k : Sg → LH → F) (t : Fx k) : (F.ct d h).k k t = .ct d h := rfl
theorem fk_kf {α : Type} (r : R α) (f : α → LH → F) (t : Fx f) (k : Sg → LH → F) (u : Fx k) : (r.kf f t).k k u = r.kf (fun a h => (f a h).k k u) fx := by
  cases r <;> rfl
theorem fk_fk (f : F) (k : Sg → LH → F) (t : Fx k) (k' : Sg → LH → F) (u : Fx k') : (f.k k t).k k' u = f.k (fun s h => (k s h).k k' u) fx := by
  cases f <;> rfl
theorem fk_bk (c : Bool) (a b : F) (t : Fx a) (t' : Fx b) (k : Sg → LH → F) (u : Fx k) : (bk c a b t t').k k u = bk c (a.k k u) (b.k k u) fx fx := by
  cases c <;> rfl
theorem rt_nx (s : Sg) (h : LH) : (F.nx s h).rt = .ok (.s .non) h := rfl
theorem rt_ret (d : D) (h : LH) : (F.ret d h).rt = .ok d h := rfl
theorem rt_kf {α : Type} (r : R α) (f : α → LH → F) (t : Fx f) : (r.kf f t).rt = r.k (fun a h => (f a h).rt) fx := by
  cases r <;> rfl
theorem rt_bk (c : Bool) (a b : F) (t : Fx a) (t' : Fx b) : (bk c a b t t').rt = bk c a.rt b.rt fx fx := by
  cases c <;> rfl
/-- what is left of a body behind a loop -/
def F.rk (f : F) (k : Sg → LH → F) (_ : Fx k) : R D := (f.sq k).rt
theorem rt_fk (f : F) (k : Sg → LH → F) (t : Fx k) : (f.k k t).rt = f.rk k t := rfl
theorem bk_t {α : Type} (a b : α) (t : Fx a) (t' : Fx b) : bk true a b t t' = a := rfl
theorem bk_f {α : Type} (a b : α) (t : Fx a) (t' : Fx b) : bk false a b t t' = b := rfl
theorem kf_bk {α : Type} (c : Bool) (a b : R α) (t : Fx a) (t' : Fx b) (f : α → LH → F) (u : Fx f) : (bk c a b t t').kf f u = bk c (a.kf f u) (b.kf f u) fx fx := by
  cases c <;> rfl
theorem k_bk {α β : Type} (c : Bool) (a b : R α) (t : Fx a) (t' : Fx b) (f : α → LH → R β) (u : Fx f) : (bk c a b t t').k f u = bk c (a.k f u) (b.k f u) fx fx := by
  cases c <;> rfl
theorem v_some (d : D) (h : LH) : vOf (some (some d)) h = .ok (lend d) h := rfl
theorem g_some (t : T) (h : LH) : gOf (some t) h = .ok (.s t) h := rfl
theorem neg_int (i : Int) (h : LH) : negOf (.s (.int i)) h = .ok (.s (.int (-i))) h := rfl
theorem oi_int (i : Int) (h : LH) : oiOf (.s (.int i)) h = .ok (some i) h := rfl
theorem ret_s (t : T) (h : LH) : retOf (.s t) h = .ret (.s t) h := rfl
theorem ret_tl (t : List T) (h : LH) : retOf (.tl t) h = .ret (.tl t) h := rfl
theorem ret_dt (k : Bool) (t : List (T × T)) (h : LH) : retOf (.dt k t) h = .ret (.dt k t) h := rfl
theorem rtv_s (t : T) (h : LH) : rtvOf (some (some (.s t))) h = .ret (.s t) h := rfl
theorem rtv_tl (t : List T) (h : LH) : rtvOf (some (some (.tl t))) h = .ret (.tl t) h := rfl
theorem rtv_dt (k : Bool) (t : List (T × T)) (h : LH) : rtvOf (some (some (.dt k t))) h = .ret (.dt k t) h := rfl
theorem par_some (s : Sg) (h : LH) : parOf (some s) h = .nx s h := rfl
theorem put_s (p : Pl) (kt t : T) (s : Sg) (h : LH) : putOf p (.s kt) t s h = chg p s h (fPut kt t) := rfl
theorem plv_ref (i n : Nat) (h : LH) : plV i (some (some (.s (.ref n)))) h = .ok (.at n) h := rfl
theorem plv_tl (i : Nat) (t : List T) (h : LH) : plV i (some (some (.tl t))) h = .ok (.own i) h := rfl
theorem plv_dt (i : Nat) (k : Bool) (t : List (T × T)) (h : LH) : plV i (some (some (.dt k t))) h = .ok (.own i) h := rfl
theorem plr_ref (n : Nat) (h : LH) : plR (.s (.ref n)) h = .ok (.at n) h := rfl
theorem gin_t (z : List Nat) (kvs : List (T × T)) (h : LH) : ginOf true (.s (.str z)) (some kvs) h = .ok (.s (.bl (!(lookT (.str z) kvs).isSome))) h := rfl
theorem gin_f (z : List Nat) (kvs : List (T × T)) (h : LH) : ginOf false (.s (.str z)) (some kvs) h = .ok (.s (.bl (lookT (.str z) kvs).isSome)) h := rfl
theorem gix_s (z : List Nat) (kvs : List (T × T)) (h : LH) : gixOf (.s (.str z)) (some kvs) h = (toR (lookT (.str z) kvs) h).k (fun t h2 => .ok (.s t) h2) fx := rfl
theorem sz_le (n : Nat) : sizeOk n = decide (n ≤ 16777216) := rfl
theorem rk_nx (s : Sg) (h : LH) (k : Sg → LH → F) (t : Fx k) : (F.nx s h).rk k t = (k s h).rt := rfl
theorem rk_ret (d : D) (h : LH) (k : Sg → LH → F) (t : Fx k) : (F.ret d h).rk k t = .ok d h := rfl
theorem rk_kf {α : Type} (r : R α) (f : α → LH → F) (t : Fx f) (k : Sg → LH → F) (u : Fx k) : (r.kf f t).rk k u = r.k (fun a h => (f a h).rk k u) fx := by
  cases r <;> rfl
theorem rk_fk (f : F) (k : Sg → LH → F) (t : Fx k) (k' : Sg → LH → F) (u : Fx k') : (f.k k t).rk k' u = f.rk (fun s h => (k s h).k k' u) fx := by
  cases f <;> rfl
theorem rk_bk (c : Bool) (a b : F) (t : Fx a) (t' : Fx b) (k : Sg → LH → F) (u : Fx k) : (bk c a b t t').rk k u = bk c (a.rk k u) (b.rk k u) fx fx := by
  cases c <;> rfl
theorem sdf_s (p : Pl) (kt t : T) (s : Sg) (h : LH) : sdfOf p (.s kt) t s h = chg p s h (fSdf kt t) := rfl
section
variable (P : Pg) (G : Nat → List D → LH → R D) (s : Sg) (h : LH)
theorem x_c (t : T) : evE P G (.c t) s h = .ok (.s t) h := by rw [evE]
theorem x_v (i : Nat) : evE P G (.v i) s h = vOf s[i]? h := by rw [evE] <;> rfl
theorem x_g (k : Nat) : evE P G (.g k) s h = gOf (P.gl k) h := by rw [evE] <;> rfl
theorem x_neg (a : Ex) : evE P G (.neg a) s h = (evE P G a s h).k (fun x h1 => negOf x h1) fx := by rw [evE] <;> rfl
theorem x_bin (op : Bop) (a b : Ex) : evE P G (.bin op a b) s h = (evE P G a s h).k (fun x h1 => (evE P G b s h1).k (fun y h2 => toR (binD op x y h2) h2) fx) fx := by rw [evE] <;> rfl
theorem x_cmp (op : Cop) (a b : Ex) : evE P G (.cmp op a b) s h = (evE P G a s h).k (fun x h1 => (evE P G b s h1).k (fun y h2 => (toR (cmpD op x y h2) h2).k (fun b h3 => .ok (.s (.bl b)) h3) fx) fx) fx := by rw [evE] <;> rfl
theorem x_chn (p q : Cop) (a b c : Ex) : evE P G (.chn p q a b c) s h = (evE P G a s h).k (fun x h1 => (evE P G b s h1).k (fun y h2 => (toR (cmpD p x y h2) h2).k (fun r h3 => bk r ((evE P G c s h3).k (fun z h4 => (toR (cmpD q y z h4) h4).k (fun r' h5 => .ok (.s (.bl r')) h5) fx) fx) (.ok (.s (.bl false)) h3) fx fx) fx) fx) fx := by rw [evE] <;> rfl
theorem x_not (a : Ex) : evE P G (.not a) s h = (evE P G a s h).k (fun x h1 => (truD x h1).k (fun b h2 => .ok (.s (.bl (!b))) h2) fx) fx := by rw [evE] <;> rfl
theorem x_and (es : List Ex) : evE P G (.and es) s h = evN P G true es s h := by rw [evE]
theorem x_or (es : List Ex) : evE P G (.or es) s h = evN P G false es s h := by rw [evE]
theorem xN_1 (op : Bool) (e : Ex) : evN P G op [e] s h = evE P G e s h := by rw [evN]
theorem xN_t (e e' : Ex) (es : List Ex) : evN P G true (e :: e' :: es) s h = (evE P G e s h).k (fun x h1 => (truD x h1).k (fun c h2 => bk c (evN P G true (e' :: es) s h2) (.ok (.s (.bl false)) h2) fx fx) fx) fx := by
  rw [evN]
  cases evE P G e s h with
  | ok x h1 =>
    simp only [bd_ok, k_ok]
    cases truD x h1 with
    | ok c h2 => cases c <;> rfl
    | exc _ _ => rfl
    | bad => rfl
  | exc _ _ => rfl
  | bad => rfl
theorem xN_f (e e' : Ex) (es : List Ex) : evN P G false (e :: e' :: es) s h = (evE P G e s h).k (fun x h1 => (truD x h1).k (fun c h2 => bk c (.ok (.s (.bl true)) h2) (evN P G false (e' :: es) s h2) fx fx) fx) fx := by
  rw [evN]
  cases evE P G e s h with
  | ok x h1 =>
    simp only [bd_ok, k_ok]
    cases truD x h1 with
    | ok c h2 => cases c <;> rfl
    | exc _ _ => rfl
    | bad => rfl
  | exc _ _ => rfl
  | bad => rfl
theorem x_ite (c a b : Ex) : evE P G (.ite c a b) s h = (evE P G c s h).k (fun x h1 => (truD x h1).k (fun r h2 => bk r (evE P G a s h2) (evE P G b s h2) fx fx) fx) fx := by rw [evE] <;> rfl
theorem x_tup (es : List Ex) : evE P G (.tup es) s h = (evT P G es s h).k (fun ts h1 => bk (sizeOk ts.length) (.ok (.s (.tup ts)) h1) .bad fx fx) fx := by rw [evE] <;> rfl
theorem x_lst (es : List Ex) : evE P G (.lst es) s h = (evT P G es s h).k (fun ts h1 => bk (sizeOk ts.length) (.ok (.tl ts) h1) .bad fx fx) fx := by rw [evE] <;> rfl
theorem x_dsp (k : Bool) (es : List Ex) : evE P G (.dsp k es) s h = (evT P G es s h).k (fun ts h1 => toR (dspD k ts) h1) fx := by rw [evE] <;> rfl
theorem x_ix (a i : Ex) : evE P G (.ix a i) s h = (evE P G a s h).k (fun x h1 => (evE P G i s h1).k (fun y h2 => toR (ixD x y h2) h2) fx) fx := by rw [evE] <;> rfl
theorem x_sl (a : Ex) (lo hi : Option Ex) : evE P G (.sl a lo hi) s h = (evE P G a s h).k (fun x h1 => (evO P G lo s h1).k (fun l h2 => (evO P G hi s h2).k (fun u h3 => toR (slD x l u h3) h3) fx) fx) fx := by rw [evE] <;> rfl
theorem x_call (f : Nat) (as : List Ex) : evE P G (.call f as) s h = (evA P G as s h).k (fun ds h1 => G f ds h1) fx := by rw [evE] <;> rfl
theorem x_calv (i : Nat) (as : List Ex) : evE P G (.calv i as) s h = (fnOf s[i]? h).k (fun f h0 => (evA P G as s h0).k (fun ds h1 => G f ds h1) fx) fx := by
  rw [evE]
  cases s[i]? with
  | none => rfl
  | some o => cases o with
    | none => rfl
    | some d => cases d with
      | s t => cases t <;> rfl
      | _ => rfl
theorem x_fr (f : Nat) : evE P G (.fr f) s h = bk (P.df f).isSome (.ok (.s (.fn f)) h) .bad fx fx := by rw [evE] <;> rfl
theorem x_bi (b : Bi) (as : List Ex) : evE P G (.bi b as) s h = (evL P G as s h).k (fun ds h1 => toR (biD b ds h1) h1) fx := by rw [evE] <;> rfl
theorem x_bix (b : Bi) (it : Ix) : evE P G (.bix b it) s h = (evI P G it s h).k (fun p h1 => toR (bixD b p.1) h1) fx := by rw [evE] <;> rfl
theorem x_me (m : Me) (o : Ex) (as : List Ex) : evE P G (.me m o as) s h = (evE P G o s h).k (fun x h1 => bk (meRecv m x h1) ((evL P G as s h1).k (fun ds h2 => toR (meD m x ds h2) h2) fx) .bad fx fx) fx := by rw [evE] <;> rfl
theorem x_isi (a : Ex) (ts : List Ty) : evE P G (.isi a ts) s h = (evE P G a s h).k (fun x h1 => (toR (isiD x ts h1) h1).k (fun b h2 => .ok (.s (.bl b)) h2) fx) fx := by rw [evE] <;> rfl
theorem x_sp (k : Spk) (as : List Ex) : evE P G (.sp k as) s h = (evL P G as s h).k (fun ds h1 => toR (spD k ds h1) h1) fx := by rw [evE] <;> rfl
theorem x_fx (a : Ex) : evE P G (.fx a) s h = (evE P G a s h).k (fun d h1 => (fix d h1).k (fun t h2 => .ok (.s t) h2) fx) fx := by rw [evE] <;> rfl
theorem x_gin (neg : Bool) (a : Ex) (k : Nat) : evE P G (.gin neg a k) s h = (evE P G a s h).k (fun x h1 => ginOf neg x (P.gd k) h1) fx := by rw [evE] <;> rfl
theorem x_gix (k : Nat) (a : Ex) : evE P G (.gix k a) s h = (evE P G a s h).k (fun x h1 => gixOf x (P.gd k) h1) fx := by rw [evE] <;> rfl
theorem xO_0  : evO P G none s h = .ok none h := by rw [evO]
theorem xO_1 (e : Ex) : evO P G (some e) s h = (evE P G e s h).k (fun d h1 => oiOf d h1) fx := by rw [evO] <;> rfl
theorem xA_0  : evA P G [] s h = .ok [] h := by rw [evA]
theorem xA_c (e : Ex) (es : List Ex) : evA P G (e :: es) s h = (evE P G e s h).k (fun d h1 => (evA P G es s h1).k (fun ds h2 => .ok (lend d :: ds) h2) fx) fx := by rw [evA] <;> rfl
theorem xL_0  : evL P G [] s h = .ok [] h := by rw [evL]
theorem xL_c (e : Ex) (es : List Ex) : evL P G (e :: es) s h = (evE P G e s h).k (fun d h1 => (evL P G es s h1).k (fun ds h2 => .ok (d :: ds) h2) fx) fx := by rw [evL] <;> rfl
theorem xT_0  : evT P G [] s h = .ok [] h := by rw [evT]
theorem xT_c (e : Ex) (es : List Ex) : evT P G (e :: es) s h = (evE P G e s h).k (fun d h1 => (fix d h1).k (fun t h2 => (evT P G es s h2).k (fun ts h3 => .ok (t :: ts) h3) fx) fx) fx := by rw [evT] <;> rfl
theorem xC_0  : evC P G [] s h = .ok true h := by rw [evC]
theorem xC_1 (e : Ex) : evC P G [e] s h = (evE P G e s h).k (fun x h1 => truD x h1) fx := by rw [evC] <;> rfl
theorem xI_e (a : Ex) : evI P G (.e a) s h = (evE P G a s h).k (fun x h1 => toR (itX a x h1) h1) fx := by rw [evI] <;> rfl
theorem xI_rng (as : List Ex) : evI P G (.rng as) s h = (evL P G as s h).k (fun ds h1 => (toR (rngD ds) h1).k (fun xs h2 => .ok (xs, []) h2) fx) fx := by rw [evI] <;> rfl
theorem xI_enm (a : Ex) : evI P G (.enm a) s h = (evE P G a s h).k (fun x h1 => (toR (itX a x h1) h1).k (fun p h2 => .ok (enmT 0 p.1, p.2) h2) fx) fx := by rw [evI] <;> rfl
theorem xI_zp (as : List Ex) : evI P G (.zp as) s h = (evL P G as s h).k (fun ds h1 => toR (zipD as ds h1) h1) fx := by rw [evI] <;> rfl
theorem x_lc (elt : Ex) (tg : Tg) (it : Ix) (cnd : List Ex) (own : List Nat) : evE P G (.lc elt tg it cnd own) s h = (evI P G it s h).k (fun p h1 => (lcK P G elt tg cnd own s p.2 h1 p.1 [] h1).k (fun ts h5 => .ok (.tl ts) h5) fx) fx := by rw [evE] <;> rfl
theorem xK_0  : evK P G [] [] s h = .ok [] h := by rw [evK]
theorem xK_c (b : Bool) (i : Nat) (is : List (Bool × Nat)) (e : Ex) (es : List Ex) : evK P G ((b, i) :: is) (e :: es) s h = (evE P G e s h).k (fun d h1 => (keep b d h1).k (fun d' h2 => (evK P G is es s h2).k (fun ds h3 => .ok (d' :: ds) h3) fx) fx) fx := by rw [evK] <;> rfl
theorem z_nil  : evB P G [] s h = .nx s h := by rw [evB]
theorem z_cons (x : Sx) (xs : List Sx) : evB P G (x :: xs) s h = (evS P G x s h).k (fun s' h' => evB P G xs s' h') fx := by rw [evB] <;> rfl
theorem z_set (own : Bool) (i : Nat) (e : Ex) : evS P G (.set own i e) s h = (evE P G e s h).kf (fun d h1 => (keep own d h1).kf (fun d' h2 => .nx (s.set i (some d')) h2) fx) fx := by rw [evS] <;> rfl
theorem z_unp (tg : Tg) (e : Ex) : evS P G (.unp tg e) s h = (evE P G e s h).kf (fun d h1 => unpOf tg d s h1) fx := by rw [evS] <;> rfl
theorem z_par (is : List (Bool × Nat)) (es : List Ex) : evS P G (.par is es) s h = (evK P G is es s h).kf (fun ds h1 => parOf (setsG is ds s) h1) fx := by rw [evS] <;> rfl
theorem z_put (o k e : Ex) : evS P G (.put o k e) s h = (evE P G e s h).kf (fun d h1 => (fix d h1).kf (fun t h2 => (plOf P G o s h2).kf (fun p h3 => (evE P G k s h3).kf (fun kd h4 => putOf p kd t s h4) fx) fx) fx) fx := by rw [evS] <;> rfl
theorem z_app (o e : Ex) : evS P G (.app o e) s h = (plOf P G o s h).kf (fun p h1 => bk (plIs false p s h1) ((evE P G e s h1).kf (fun d h2 => (fix d h2).kf (fun t h3 => chg p s h3 (fApp t)) fx) fx) .bad fx fx) fx := by rw [evS] <;> rfl
theorem z_sdf (o k e : Ex) : evS P G (.sdf o k e) s h = (plOf P G o s h).kf (fun p h1 => bk (plIs true p s h1) ((evE P G k s h1).kf (fun kd h2 => (evE P G e s h2).kf (fun d h3 => (fix d h3).kf (fun t h4 => sdfOf p kd t s h4) fx) fx) fx) .bad fx fx) fx := by rw [evS] <;> rfl
theorem z_clr (o : Ex) : evS P G (.clr o) s h = (plOf P G o s h).kf (fun p h1 => bk (plIs true p s h1) (chg p s h1 fClr) .bad fx fx) fx := by rw [evS] <;> rfl
theorem z_aug (i : Nat) (op : Bop) (e : Ex) : evS P G (.aug i op e) s h = augOf P G s[i]? i op e s h := by rw [evS] <;> rfl
theorem z_ex (e : Ex) : evS P G (.ex e) s h = (evE P G e s h).kf (fun _ h1 => .nx s h1) fx := by rw [evS] <;> rfl
theorem z_iff (c : Ex) (a b : List Sx) : evS P G (.iff c a b) s h = (evE P G c s h).kf (fun d h1 => (truD d h1).kf (fun r h2 => bk r (evB P G a s h2) (evB P G b s h2) fx fx) fx) fx := by rw [evS] <;> rfl
theorem z_for (tg : Tg) (it : Ix) (body : List Sx) : evS P G (.for tg it body) s h = (evI P G it s h).kf (fun p h1 => backF (slotI it) s (forK P G tg body p.2 h1 p.1 (lendS (slotI it) s) h1)) fx := by rw [evS] <;> rfl
theorem z_ret (e : Ex) : evS P G (.ret e) s h = (evE P G e s h).kf (fun d h1 => retOf d h1) fx := by rw [evS] <;> rfl
theorem z_rtv (i : Nat) : evS P G (.rtv i) s h = rtvOf s[i]? h := by rw [evS] <;> rfl
theorem z_rtn  : evS P G .rtn s h = .ret (.s .non) h := by rw [evS]
theorem z_pas  : evS P G .pas s h = .nx s h := by rw [evS]
theorem z_cnt  : evS P G .cnt s h = .ct s h := by rw [evS]
theorem z_brk  : evS P G .brk s h = .brk s h := by rw [evS]
theorem z_whl (c : Ex) (body : List Sx) : evS P G (.whl c body) s h = whlK P G c body wF s h := by rw [evS] <;> rfl
theorem pl_v (i : Nat) : plOf P G (.v i) s h = plV i s[i]? h := rfl
theorem pl_ix (a i : Ex) : plOf P G (.ix a i) s h = (evE P G (.ix a i) s h).k (fun d h1 => plR d h1) fx := rfl
end
theorem evd_ : True := trivial
def evd := And.intro @x_c (And.intro @x_v (And.intro @x_g (And.intro @x_neg (And.intro @x_bin (And.intro @x_cmp (And.intro @x_chn (And.intro @x_not (And.intro @x_and (And.intro @x_or (And.intro @xN_1 (And.intro @xN_t (And.intro @xN_f (And.intro @x_ite (And.intro @x_tup (And.intro @x_lst (And.intro @x_dsp (And.intro @x_ix (And.intro @x_sl (And.intro @x_call (And.intro @x_calv (And.intro @x_fr (And.intro @x_bi (And.intro @x_bix (And.intro @x_me (And.intro @x_isi (And.intro @x_sp (And.intro @x_fx (And.intro @x_gin (And.intro @x_gix (And.intro @xO_0 (And.intro @xO_1 (And.intro @xA_0 (And.intro @xA_c (And.intro @xL_0 (And.intro @xL_c (And.intro @xT_0 (And.intro @xT_c (And.intro @xC_0 (And.intro @xC_1 (And.intro @xI_e (And.intro @xI_rng (And.intro @xI_enm (And.intro @xI_zp (And.intro @x_lc (And.intro @xK_0 (And.intro @xK_c (And.intro @z_nil (And.intro @z_cons (And.intro @z_set (And.intro @z_unp (And.intro @z_par (And.intro @z_put (And.intro @z_app (And.intro @z_sdf (And.intro @z_clr (And.intro @z_aug (And.intro @z_ex (And.intro @z_iff (And.intro @z_for (And.intro @z_ret (And.intro @z_rtv (And.intro @z_rtn (And.intro @z_pas (And.intro @z_cnt (And.intro @z_brk (And.intro @z_whl (And.intro @pl_v (@pl_ix))))))))))))))))))))))))))))))))))))))))))))))))))))))))))))))))))))
theorem evu_ : True := trivial
def evu := And.intro @k_ok (And.intro @k_bad (And.intro @k_k (And.intro @kf_ok (And.intro @kf_k (And.intro @fk_nx (And.intro @fk_ret (And.intro @fk_ct (And.intro @fk_kf (And.intro @fk_fk (And.intro @fk_bk (And.intro @rt_nx (And.intro @rt_ret (And.intro @rt_kf (And.intro @rt_fk (And.intro @rt_bk (And.intro @bk_t (And.intro @bk_f (And.intro @kf_bk (And.intro @k_bk (And.intro @toR_some (And.intro @v_some (And.intro @g_some (And.intro @neg_int (And.intro @oi_int (And.intro @ret_s (And.intro @ret_tl (And.intro @ret_dt (And.intro @rtv_s (And.intro @rtv_tl (And.intro @rtv_dt (And.intro @par_some (And.intro @put_s (And.intro @sdf_s (And.intro @plv_ref (And.intro @plv_tl (And.intro @plv_dt (And.intro @plr_ref (And.intro @gin_t (And.intro @gin_f (And.intro @gix_s (And.intro @sz_le (And.intro @rk_nx (And.intro @rk_ret (And.intro @rk_kf (And.intro @rk_fk (@rk_bk))))))))))))))))))))))))))))))))))))))))))))))
/-- r ends well, and Q holds of its end -/
def R.W {α : Type} (r : R α) (Q : α → LH → Prop) (_ : Fx Q) : Prop := ∃ a h, r = .ok a h ∧ Q a h
theorem W_ok {α : Type} {a : α} {h : LH} {Q : α → LH → Prop} {t : Fx Q} : (R.ok a h).W Q t ↔ Q a h :=
  ⟨fun ⟨_, _, e, q⟩ => by cases e; exact q, fun q => ⟨_, _, rfl, q⟩⟩
theorem W_mono {α : Type} {r : R α} {Q Q' : α → LH → Prop} {t : Fx Q} {t' : Fx Q'} (w : r.W Q t) (m : ∀ a h, Q a h → Q' a h) : r.W Q' t' :=
  let ⟨a, h, e, q⟩ := w
  ⟨a, h, e, m a h q⟩
/-- a call in front: its promise, then the rest -/
theorem W_k {α β : Type} {r : R α} {f : α → LH → R β} {tf : Fx f} {Q : β → LH → Prop} {t : Fx Q} {Q0 : α → LH → Prop} {t0 : Fx Q0} (w : r.W Q0 t0) (m : ∀ a h, Q0 a h → (f a h).W Q t) : (r.k f tf).W Q t := by
  obtain ⟨a, h, e, q⟩ := w
  rw [e]; exact m a h q
theorem W_eq {α : Type} {r : R α} {a : α} {h : LH} {Q : α → LH → Prop} {t : Fx Q} (e : r = .ok a h) (q : Q a h) : r.W Q t := by rw [e]; exact W_ok.mpr q
theorem eq_W {α : Type} {r : R α} {a : α} {h : LH} {t : Fx fun a' h' => a' = a ∧ h' = h} (w : r.W (fun a' h' => a' = a ∧ h' = h) t) : r = .ok a h := by
  obtain ⟨a', h', e, rfl, rfl⟩ := w; exact e
theorem call_W {P : Pg} {n f : Nat} {d : Df} {as : List D} {h : LH} {Q : D → LH → Prop} {t : Fx Q} (e : P.df f = some d) (l : as.length = d.np) (w : ((evB P (callF P n) d.body (as.map some ++ List.replicate (d.ns - d.np) none) h).rt).W Q t) : (callF P (n + 1) f as h).W Q t := by
  unfold callF; rw [e]; simp only; unfold run; rw [if_pos l]
  cases q : evB P (callF P n) d.body (as.map some ++ List.replicate (d.ns - d.np) none) h <;> rw [q] at w <;> exact w
theorem call_eq {P : Pg} {n f : Nat} {d : Df} {as : List D} {h : LH} (e : P.df f = some d) (l : as.length = d.np) : callF P (n + 1) f as h = (evB P (callF P n) d.body (as.map some ++ List.replicate (d.ns - d.np) none) h).rt := by
  unfold callF; rw [e]; simp only; unfold run; rw [if_pos l]
  cases evB P (callF P n) d.body (as.map some ++ List.replicate (d.ns - d.np) none) h <;> rfl
theorem lcB_k {P : Pg} {G : Nat → List D → LH → R D} {elt : Ex} {tg : Tg} {cnd : List Ex} {own : List Nat} {s s' : Sg} {x : T} {h : LH} (e : bindG tg x (wipG s own) = some s') :
    lcB P G elt tg cnd own s x h = (evC P G cnd s' h).k (fun b h2 => bk b ((evE P G elt s' h2).k (fun d h3 => (fix d h3).k (fun t h4 => .ok (some t) h4) fx) fx) (.ok none h2) fx fx) fx := by
  unfold lcB; rw [e]; rfl
theorem forB_k {P : Pg} {G : Nat → List D → LH → R D} {tg : Tg} {body : List Sx} {x : T} {s s' : Sg} {h : LH} (e : bindG tg x s = some s') : forB P G tg body x s h = evB P G body s' h := by
  unfold forB; rw [e]
/-- a comprehension, by what holds of what was gathered -/
theorem lc_inv {f : T → LH → R (Option T)} {gd : LH → Bool} {I : List T → LH → Prop} (hg : ∀ acc h, I acc h → gd h = true) : ∀ (xs acc : List T) (h : LH), I acc h →
    (∀ x ∈ xs, ∀ acc h, I acc h → (f x h).W (fun o h' => match o with
      | some t => I (acc ++ [t]) h'
      | none => I acc h') fx) → (lcL f gd xs acc h).W I fx
  | [], acc, h, i, _ => by
    unfold lcL; rw [if_pos (hg _ _ i)]; exact W_ok.mpr i
  | x :: xs, acc, h, i, st => by
    unfold lcL; rw [if_pos (hg _ _ i)]
    obtain ⟨o, h', e, q⟩ := st x (List.mem_cons_self ..) acc h i
    rw [e]
    cases o with
    | some t => exact lc_inv hg xs _ h' q fun y hy => st y (List.mem_cons_of_mem _ hy)
    | none => exact lc_inv hg xs _ h' q fun y hy => st y (List.mem_cons_of_mem _ hy)
/-- .. item by item, with what is left to be drawn -/
theorem lc_each {f : T → LH → R (Option T)} {gd : LH → Bool} {I : Nat → LH → Prop} {p : T → Prop} (c : Nat) (hg : ∀ k h, I k h → gd h = true) (xs : List T) (h : LH) (b : Nat) (i : I (b + c * xs.length) h)
    (st : ∀ x ∈ xs, ∀ b h, I (b + c) h → (f x h).W (fun o h' => ∃ t, o = some t ∧ p t ∧ I b h') fx) : (lcL f gd xs [] h).W (fun ts h' => ts.length = xs.length ∧ (∀ t ∈ ts, p t) ∧ I b h') fx := by
  suffices H : ∀ (xs acc : List T) (h : LH), I (b + c * xs.length) h → (∀ t ∈ acc, p t) → (∀ x ∈ xs, ∀ b h, I (b + c) h → (f x h).W (fun o h' => ∃ t, o = some t ∧ p t ∧ I b h') fx) →
      (lcL f gd xs acc h).W (fun ts h' => ts.length = acc.length + xs.length ∧ (∀ t ∈ ts, p t) ∧ I b h') fx by
    refine W_mono (H xs [] h i (fun t ht => by cases ht) st) fun a h q => ⟨by simpa using q.1, q.2⟩
  intro xs
  induction xs with
  | nil =>
    intro acc h i pa st
    unfold lcL; rw [if_pos (hg _ _ i)]
    exact W_ok.mpr ⟨by simp, pa, i⟩
  | cons x xs ih =>
    intro acc h i pa st
    unfold lcL; rw [if_pos (hg _ _ i)]
    have i0 : I ((b + c * xs.length) + c) h := by
      have e : b + c * (x :: xs).length = (b + c * xs.length) + c := by rw [List.length_cons, Nat.mul_succ]; omega
      rw [← e]; exact i
    obtain ⟨o, h', e, t, rfl, pt, i'⟩ := st x (List.mem_cons_self ..) (b + c * xs.length) h i0
    rw [e]
    refine W_mono (ih (acc ++ [t]) h' i' (fun u hu => ?_) fun y hy => st y (List.mem_cons_of_mem _ hy)) fun a h q => ⟨?_, q.2⟩
    · rcases List.mem_append.mp hu with hu | hu
      · exact pa u hu
      · rw [List.mem_singleton.mp hu]; exact pt
    · rw [q.1]; simp; omega
/-- a loop in front -/
theorem W_rk {f : F} {k : Sg → LH → F} {tk : Fx k} {Q : D → LH → Prop} {t : Fx Q} {Q0 : Sg → LH → Prop} (w : ∃ s h, f = .nx s h ∧ Q0 s h) (m : ∀ s h, Q0 s h → ((k s h).rt).W Q t) : (f.rk k tk).W Q t := by
  obtain ⟨s, h, e, q⟩ := w
  rw [e]; exact m s h q
/-- a loop by its invariant; each turn goes on -/
theorem for_inv {f : T → Sg → LH → F} {gd : LH → Bool} {I : Nat → Sg → LH → Prop} (c : Nat) (hg : ∀ k s h, I k s h → gd h = true) (b : Nat) : ∀ (xs : List T) (s : Sg) (h : LH), I (b + c * xs.length) s h →
    (∀ x ∈ xs, ∀ b s h, I (b + c) s h → ∃ s' h', (f x s h = .nx s' h' ∨ f x s h = .ct s' h') ∧ I b s' h') → ∃ s' h', forL f gd xs s h = .nx s' h' ∧ I b s' h'
  | [], s, h, i, _ => by
    unfold forL; rw [if_pos (hg _ _ _ i)]; exact ⟨_, _, rfl, i⟩
  | x :: xs, s, h, i, st => by
    unfold forL; rw [if_pos (hg _ _ _ i)]
    have i0 : I ((b + c * xs.length) + c) s h := by
      have e : b + c * (x :: xs).length = (b + c * xs.length) + c := by rw [List.length_cons, Nat.mul_succ]; omega
      rw [← e]; exact i
    obtain ⟨s', h', e, i'⟩ := st x (List.mem_cons_self ..) (b + c * xs.length) s h i0
    rcases e with e | e <;> rw [e] <;> exact for_inv c hg b xs s' h' i' fun y hy => st y (List.mem_cons_of_mem _ hy)
/-- a loop by its invariant, the items known by their place -/
theorem for_at {f : T → Sg → LH → F} {gd : LH → Bool} {I : Nat → Sg → LH → Prop} (hg : ∀ k s h, I k s h → gd h = true) : ∀ (xs : List T) (k : Nat) (s : Sg) (h : LH), I k s h →
    (∀ i x, xs[i]? = some x → ∀ s h, I (k + i) s h → ∃ s' h', (f x s h = .nx s' h' ∨ f x s h = .ct s' h') ∧ I (k + i + 1) s' h') → ∃ s' h', forL f gd xs s h = .nx s' h' ∧ I (k + xs.length) s' h'
  | [], k, s, h, i, _ => by
    unfold forL; rw [if_pos (hg _ _ _ i)]; exact ⟨_, _, rfl, i⟩
  | x :: xs, k, s, h, i, st => by
    unfold forL; rw [if_pos (hg _ _ _ i)]
    obtain ⟨s', h', e, i'⟩ := st 0 x rfl s h i
    have := for_at hg xs (k + 1) s' h' i' fun j y hy s h q => by
      have z := st (j + 1) y (by simpa using hy) s h (by rw [show k + (j + 1) = k + 1 + j by omega]; exact q)
      rw [show k + (j + 1) + 1 = k + 1 + j + 1 by omega] at z
      exact z
    rw [List.length_cons, show k + (xs.length + 1) = k + 1 + xs.length by omega]
    rcases e with e | e <;> rw [e] <;> exact this
/-- what a turn's body comes to -/
theorem nx_of {f : F} {Q : Sg → LH → Prop} {k : Sg → LH → F} (w : ∃ s h, f = .nx s h ∧ Q s h) : ∃ s h, (f = .nx s h ∨ f = .ct s h) ∧ Q s h := by
  obtain ⟨s, h, e, q⟩ := w
  exact ⟨s, h, Or.inl e, q⟩
/-- a body of a turn: ends in nx, ct -/
def F.N (f : F) (Q : Sg → LH → Prop) (_ : Fx Q) : Prop := ∃ s h, (f = .nx s h ∨ f = .ct s h) ∧ Q s h
theorem N_nx {s : Sg} {h : LH} {Q : Sg → LH → Prop} {t : Fx Q} : (F.nx s h).N Q t ↔ Q s h :=
  ⟨fun ⟨_, _, e, q⟩ => by rcases e with e | e <;> cases e; exact q, fun q => ⟨_, _, Or.inl rfl, q⟩⟩
theorem N_ct {s : Sg} {h : LH} {Q : Sg → LH → Prop} {t : Fx Q} : (F.ct s h).N Q t ↔ Q s h :=
  ⟨fun ⟨_, _, e, q⟩ => by rcases e with e | e <;> cases e; exact q, fun q => ⟨_, _, Or.inr rfl, q⟩⟩
theorem N_kf {α : Type} {r : R α} {f : α → LH → F} {tf : Fx f} {Q : Sg → LH → Prop} {t : Fx Q} {Q0 : α → LH → Prop} {t0 : Fx Q0} (w : r.W Q0 t0) (m : ∀ a h, Q0 a h → (f a h).N Q t) : (r.kf f tf).N Q t := by
  obtain ⟨a, h, e, q⟩ := w
  rw [e]; exact m a h q
theorem N_fk {f : F} {k : Sg → LH → F} {tk : Fx k} {Q : Sg → LH → Prop} {t : Fx Q} {Q0 : Sg → LH → Prop} (w : ∃ s h, f = .nx s h ∧ Q0 s h) (m : ∀ s h, Q0 s h → (k s h).N Q t) : (f.k k tk).N Q t := by
  obtain ⟨s, h, e, q⟩ := w
  rw [e]; exact m s h q
theorem toR_ok {α : Type} {o : Option α} {a : α} {h : LH} (e : o = some a) : toR o h = .ok a h := by rw [e]; rfl
end Rm
set_option Elab.async false
set_option linter.all false
set_option autoImplicit false
set_option maxRecDepth 100000
namespace Rm
theorem lend_s (t : T) : lend (.s t) = .s t := rfl
theorem lend_tl (t : List T) : lend (.tl t) = .vw t := rfl
theorem lend_vw (t : List T) : lend (.vw t) = .vw t := rfl
theorem lend_dt (k : Bool) (t : List (T × T)) : lend (.dt k t) = .dv k t := rfl
theorem lend_dv (k : Bool) (t : List (T × T)) : lend (.dv k t) = .dv k t := rfl
theorem tru_bl (b : Bool) (h : LH) : truD (.s (.bl b)) h = .ok b h := rfl
theorem keep_f (d : D) (h : LH) : keep false d h = (fix d h).k (fun t h1 => .ok (.s t) h1) fx := by
  cases d <;> rfl
theorem keep_s (t : T) (h : LH) : keep true (.s t) h = .ok (.s t) h := rfl
theorem keep_tl (t : List T) (h : LH) : keep true (.tl t) h = .ok (.tl t) h := rfl
theorem keep_dt (k : Bool) (t : List (T × T)) (h : LH) : keep true (.dt k t) h = .ok (.dt k t) h := rfl
theorem fix_s (t : T) (h : LH) : fix (.s t) h = .ok t h := rfl
theorem fix_tl (xs : List T) (h : LH) : fix (.tl xs) h = .ok (.ref h.length) (h ++ [.lst xs]) := rfl
theorem fix_dt (k : Bool) (kvs : List (T × T)) (h : LH) : fix (.dt k kvs) h = .ok (.ref h.length) (h ++ [.dct k kvs]) := rfl
theorem sets_0 (s : Sg) : setsG [] [] s = some s := rfl
theorem sets_c (b : Bool) (i : Nat) (is : List (Bool × Nat)) (d : D) (ds : List D) (s : Sg) : setsG ((b, i) :: is) (d :: ds) s = setsG is ds (s.set i (some d)) := rfl
theorem rep_0 (x : Option D) : List.replicate 0 x = [] := rfl
theorem rep_c (n : Nat) (x : Option D) : List.replicate (n + 1) x = x :: List.replicate n x := rfl
theorem m_cons (x : D) (xs : List D) : List.map some (x :: xs) = some x :: List.map some xs := rfl
theorem m_nil : List.map some ([] : List D) = [] := rfl
theorem a_cons (x : Option D) (xs ys : Sg) : (x :: xs) ++ ys = x :: (xs ++ ys) := rfl
theorem a_nil (xs : Sg) : [] ++ xs = xs := rfl
theorem g_0 {α : Type} (x : α) (xs : List α) : (x :: xs)[0]? = some x := rfl
theorem g_c {α : Type} (x : α) (xs : List α) (n : Nat) : (x :: xs)[n + 1]? = xs[n]? := rfl
theorem st_0 {α : Type} (x y : α) (xs : List α) : (x :: xs).set 0 y = y :: xs := rfl
theorem st_c {α : Type} (x y : α) (xs : List α) (n : Nat) : (x :: xs).set (n + 1) y = x :: xs.set n y := rfl
theorem l_nil : ([] : List T).length = 0 := rfl
theorem l_cons (x : T) (xs : List T) : (x :: xs).length = xs.length + 1 := rfl
theorem b_ix (i : Nat) (t : T) (s : Sg) : bindG (.n i) t s = some (s.set i (some (.s t))) := by rw [bindG]
theorem b_t (ts : List Tg) (xs : List T) (s : Sg) : bindG (.t ts) (.tup xs) s = bindGs ts xs s := by rw [bindG]
theorem bs_0 (s : Sg) : bindGs [] [] s = some s := by rw [bindGs]
theorem bs_1 (i : Nat) (gs : List Tg) (x : T) (xs : List T) (s : Sg) : bindGs (.n i :: gs) (x :: xs) s = bindGs gs xs (s.set i (some (.s x))) := by rw [bindGs, bindG]
theorem w_0 (s : Sg) : wipG s [] = s := rfl
theorem w_c (s : Sg) (v : Nat) (vs : List Nat) : wipG s (v :: vs) = (wipG s vs).set v none := rfl
theorem ls_0 (s : Sg) : lendS [] s = s := rfl
theorem bf_0 (s : Sg) (f : F) : backF [] s f = f := by cases f <;> rfl
theorem si_e (a : Ex) : slotI (.e a) = slotE a := rfl
theorem si_enm (a : Ex) : slotI (.enm a) = slotE a := rfl
theorem si_rng (a : List Ex) : slotI (.rng a) = [] := rfl
theorem se_v (i : Nat) : slotE (.v i) = [i] := rfl
theorem c_lt (x y : D) (h : LH) : cmpD .lt x y h = cmpI (fun i j => decide (i < j)) x y := rfl
theorem c_le (x y : D) (h : LH) : cmpD .le x y h = cmpI (fun i j => decide (i ≤ j)) x y := rfl
theorem c_gt (x y : D) (h : LH) : cmpD .gt x y h = cmpI (fun i j => decide (j < i)) x y := rfl
theorem c_ge (x y : D) (h : LH) : cmpD .ge x y h = cmpI (fun i j => decide (j ≤ i)) x y := rfl
theorem c_eq (x y : D) (h : LH) : cmpD .eq x y h = eqD x y h := rfl
theorem c_ne (x y : D) (h : LH) : cmpD .ne x y h = neD x y h := rfl
theorem c_in (x y : D) (h : LH) : cmpD .inn x y h = inD x y h := rfl
theorem c_nin (x y : D) (h : LH) : cmpD .nin x y h = (inD x y h).map fun b => !b := rfl
theorem c_i (f : Int → Int → Bool) (i j : Int) : cmpI f (.s (.int i)) (.s (.int j)) = some (f i j) := rfl
theorem e_ss (a b : List Nat) (h : LH) : eqD (.s (.str a)) (.s (.str b)) h = some (decide (a = b)) := rfl
theorem e_ii (a b : Int) (h : LH) : eqD (.s (.int a)) (.s (.int b)) h = some (decide (a = b)) := rfl
theorem n_ss (a b : List Nat) (h : LH) : neD (.s (.str a)) (.s (.str b)) h = some (!decide (a = b)) := rfl
theorem n_ii (a b : Int) (h : LH) : neD (.s (.int a)) (.s (.int b)) h = some (!decide (a = b)) := rfl
theorem o_add (i j : Int) (h : LH) : binD .add (.s (.int i)) (.s (.int j)) h = some (.s (.int (i + j))) := rfl
theorem o_sub (i j : Int) (h : LH) : binD .sub (.s (.int i)) (.s (.int j)) h = some (.s (.int (i - j))) := rfl
theorem bi_len (x : D) (h : LH) : biD .len [x] h = biLen h x := rfl
theorem len_s (s : List Nat) (h : LH) : biLen h (.s (.str s)) = some (.s (.int s.length)) := rfl
theorem len_t (s : List T) (h : LH) : biLen h (.s (.tup s)) = some (.s (.int s.length)) := rfl
theorem len_vw (s : List T) (h : LH) : biLen h (.vw s) = some (.s (.int s.length)) := rfl
theorem len_tl (s : List T) (h : LH) : biLen h (.tl s) = some (.s (.int s.length)) := rfl
theorem len_fl (s : List T) (h : LH) : biLen h (.s (.fl s)) = some (.s (.int s.length)) := rfl
theorem i_tup (xs : List T) (i : Int) (h : LH) : ixD (.s (.tup xs)) (.s (.int i)) h = (atT xs i).map .s := rfl
theorem i_tl (xs : List T) (i : Int) (h : LH) : ixD (.tl xs) (.s (.int i)) h = (atT xs i).map .s := rfl
theorem i_vw (xs : List T) (i : Int) (h : LH) : ixD (.vw xs) (.s (.int i)) h = (atT xs i).map .s := rfl
theorem i_fl (xs : List T) (i : Int) (h : LH) : ixD (.s (.fl xs)) (.s (.int i)) h = (atT xs i).map .s := rfl
theorem i_str (xs : List Nat) (i : Int) (h : LH) : ixD (.s (.str xs)) (.s (.int i)) h = (atT xs i).map fun c => .s (.str [c]) := rfl
theorem om_s {α β : Type} (f : α → β) (a : α) : Option.map f (some a) = some (f a) := rfl
theorem om_n {α β : Type} (f : α → β) : Option.map f none = none := rfl
theorem p_and (b : Bool) : (true && b) = b := Bool.true_and b
theorem p_andf (b : Bool) : (false && b) = false := rfl
theorem p_nt : (!true) = false := rfl
theorem p_nf : (!false) = true := rfl
theorem d_t : decide True = true := rfl
theorem d_f : decide False = false := rfl
theorem at_0 {α : Type} (a : α) (r : List α) : atT (a :: r) 0 = some a := L2.atI_nat (j := 0) rfl
theorem at_1 {α : Type} (a b : α) (r : List α) : atT (a :: b :: r) 1 = some b := L2.atI_nat (j := 1) rfl
theorem at_2 {α : Type} (a b c : α) (r : List α) : atT (a :: b :: c :: r) 2 = some c := L2.atI_nat (j := 2) rfl
theorem at_3 {α : Type} (a b c d : α) (r : List α) : atT (a :: b :: c :: d :: r) 3 = some d := L2.atI_nat (j := 3) rfl
theorem at_4 {α : Type} (a b c d e : α) (r : List α) : atT (a :: b :: c :: d :: e :: r) 4 = some e := L2.atI_nat (j := 4) rfl
theorem x_e (a : Ex) (t : T) (h : LH) : itX a (.s t) h = itOf (.s t) h := by cases t <;> rfl
theorem x_tl (a : Ex) (xs : List T) (h : LH) : itX a (.tl xs) h = some (xs, []) := rfl
theorem x_vw (i : Nat) (xs : List T) (h : LH) : itX (.v i) (.vw xs) h = some (xs, []) := rfl
theorem b_fd (i j : Int) (h : LH) : binD .fdiv (.s (.int i)) (.s (.int j)) h = if divOk j then some (.s (.int (i / j))) else none := rfl
theorem b_md (i j : Int) (h : LH) : binD .mod (.s (.int i)) (.s (.int j)) h = if decide (0 < j) then some (.s (.int (i % j))) else none := rfl
theorem b_mu (i j : Int) (h : LH) : binD .mul (.s (.int i)) (.s (.int j)) h = if mulOk i j then some (.s (.int (i * j))) else none := rfl
theorem b_pw (i j : Int) (h : LH) : binD .pow (.s (.int i)) (.s (.int j)) h = if powOk i j then some (.s (.int (i ^ j.toNat))) else none := rfl
theorem it_tup (xs : List T) (h : LH) : itOf (.s (.tup xs)) h = some (xs, []) := rfl
theorem it_str (cs : List Nat) (h : LH) : itOf (.s (.str cs)) h = some (cs.map fun c => .str [c], []) := rfl
theorem it_fl (xs : List T) (h : LH) : itOf (.s (.fl xs)) h = some (xs, []) := rfl
def evl := And.intro @lend_s (And.intro @lend_tl (And.intro @lend_vw (And.intro @lend_dt (And.intro @lend_dv (And.intro @tru_bl (And.intro @keep_f (And.intro @keep_s (And.intro @keep_tl (And.intro @keep_dt (And.intro @fix_s (And.intro @fix_tl (And.intro @fix_dt (And.intro @sets_0 (And.intro @sets_c (And.intro @rep_0 (And.intro @rep_c (And.intro @m_cons (And.intro @m_nil (And.intro @a_cons (And.intro @a_nil (And.intro @g_0 (And.intro @g_c (And.intro @st_0 (And.intro @st_c (And.intro @l_nil (And.intro @l_cons (And.intro @b_ix (And.intro @b_t (And.intro @bs_0 (And.intro @bs_1 (And.intro @w_0 (And.intro @w_c (And.intro @ls_0 (And.intro @bf_0 (And.intro @si_e (And.intro @si_enm (And.intro @si_rng (And.intro @se_v (And.intro @c_lt (And.intro @c_le (And.intro @c_gt (And.intro @c_ge (And.intro @c_eq (And.intro @c_ne (And.intro @c_in (And.intro @c_nin (And.intro @c_i (And.intro @e_ss (And.intro @e_ii (And.intro @n_ss (And.intro @n_ii (And.intro @o_add (And.intro @o_sub (And.intro @bi_len (And.intro @len_s (And.intro @len_t (And.intro @len_vw (And.intro @len_tl (And.intro @len_fl (And.intro @i_tup (And.intro @i_tl (And.intro @i_vw (And.intro @i_fl (And.intro @i_str (And.intro @om_s (And.intro @om_n (And.intro @p_and (And.intro @p_andf (And.intro @p_nt (And.intro @p_nf (And.intro @d_t (And.intro @d_f (And.intro @at_0 (And.intro @at_1 (And.intro @at_2 (And.intro @at_3 (And.intro @at_4 (And.intro @x_e (And.intro @x_tl (And.intro @x_vw (And.intro @b_fd (And.intro @b_md (And.intro @b_mu (And.intro @b_pw (And.intro @it_tup (And.intro @it_str (@it_fl)))))))))))))))))))))))))))))))))))))))))))))))))))))))))))))))))))))))))))))))))))))))
end Rm
set_option Elab.async false
set_option linter.all false
set_option autoImplicit false
set_option maxRecDepth 100000
namespace Rm
section
variable {P : Pg} {G : Nat → List D → LH → R D} {tg : Tg} {body : List Sx} {gs : List Nat} {h1 : LH} {xs : List T} {s : Sg} {h : LH}
/-- a loop by its invariant, then the rest of the body -/
theorem for_W {k : Sg → LH → F} {tk : Fx k} {Q : D → LH → Prop} {t : Fx Q} (I : Nat → Sg → LH → Prop) (c b : Nat) (hg : ∀ k s h, I k s h → stay gs h1 h = true) (i0 : I (b + c * xs.length) s h)
    (st : ∀ x ∈ xs, ∀ b s h, I (b + c) s h → (forB P G tg body x s h).N (fun s h => I b s h) fx) (m : ∀ s h, I b s h → ((k s h).rt).W Q t) : ((forK P G tg body gs h1 xs s h).rk k tk).W Q t :=
  W_rk (for_inv c hg b xs s h i0 st) m
theorem for_N {k : Sg → LH → F} {tk : Fx k} {Q : Sg → LH → Prop} {t : Fx Q} (I : Nat → Sg → LH → Prop) (c b : Nat) (hg : ∀ k s h, I k s h → stay gs h1 h = true) (i0 : I (b + c * xs.length) s h)
    (st : ∀ x ∈ xs, ∀ b s h, I (b + c) s h → (forB P G tg body x s h).N (fun s h => I b s h) fx) (m : ∀ s h, I b s h → (k s h).N Q t) : ((forK P G tg body gs h1 xs s h).k k tk).N Q t :=
  N_fk (for_inv c hg b xs s h i0 st) m
/-- .. the items known by their place -/
theorem for_atW {k : Sg → LH → F} {tk : Fx k} {Q : D → LH → Prop} {t : Fx Q} (I : Nat → Sg → LH → Prop) (hg : ∀ k s h, I k s h → stay gs h1 h = true) (i0 : I 0 s h)
    (st : ∀ i x, xs[i]? = some x → ∀ s h, I i s h → (forB P G tg body x s h).N (fun s h => I (i + 1) s h) fx) (m : ∀ s h, I xs.length s h → ((k s h).rt).W Q t) : ((forK P G tg body gs h1 xs s h).rk k tk).W Q t :=
  W_rk (Q0 := I xs.length) (by
    have := for_at (f := forB P G tg body) (gd := stay gs h1) (I := I) hg xs 0 s h i0 fun i x e s h q => by
      rw [Nat.zero_add] at q ⊢
      exact st i x e s h q
    rw [Nat.zero_add] at this
    exact this) m
variable {elt : Ex} {cnd : List Ex} {own : List Nat}
theorem lc_W {β : Type} {f : List T → LH → R β} {tf : Fx f} {Q : β → LH → Prop} {t : Fx Q} (I : Nat → LH → Prop) (p : T → Prop) (c b : Nat) (hg : ∀ k h, I k h → stay gs h1 h = true) (i0 : I (b + c * xs.length) h)
    (st : ∀ x ∈ xs, ∀ b h, I (b + c) h → (lcB P G elt tg cnd own s x h).W (fun o h' => ∃ t, o = some t ∧ p t ∧ I b h') fx)
    (m : ∀ ts h, ts.length = xs.length → (∀ t ∈ ts, p t) → I b h → (f ts h).W Q t) : ((lcK P G elt tg cnd own s gs h1 xs [] h).k f tf).W Q t :=
  W_k (lc_each (I := I) (p := p) c hg xs h b i0 st) fun ts h q => m ts h q.1 q.2.1 q.2.2
theorem lc_N {f : List T → LH → F} {tf : Fx f} {Q : Sg → LH → Prop} {t : Fx Q} (I : Nat → LH → Prop) (p : T → Prop) (c b : Nat) (hg : ∀ k h, I k h → stay gs h1 h = true) (i0 : I (b + c * xs.length) h)
    (st : ∀ x ∈ xs, ∀ b h, I (b + c) h → (lcB P G elt tg cnd own s x h).W (fun o h' => ∃ t, o = some t ∧ p t ∧ I b h') fx)
    (m : ∀ ts h, ts.length = xs.length → (∀ t ∈ ts, p t) → I b h → (f ts h).N Q t) : ((lcK P G elt tg cnd own s gs h1 xs [] h).kf f tf).N Q t :=
  N_kf (lc_each (I := I) (p := p) c hg xs h b i0 st) fun ts h q => m ts h q.1 q.2.1 q.2.2
end
/-! ### what a loop lends -/
def notOwn (o : Option (Option D)) : Bool := match o with
  | some (some d) => !isOwn d
  | _ => true
theorem no_s (t : T) : notOwn (some (some (.s t))) = true := rfl
theorem no_vw (t : List T) : notOwn (some (some (.vw t))) = true := rfl
theorem bf_1 (i : Nat) (s : Sg) (f : F) (h : notOwn s[i]? = true) : backF [i] s f = f := by
  cases f with
  | nx s' h' =>
    have : backS [i] s s' = some s' := by
      simp only [backS]
      split
      · rename_i d d' e1 e2
        rw [e1] at h
        simp only [notOwn, Bool.not_eq_true'] at h
        simp [h]
      · rfl
    simp only [backF, this]
  | _ => rfl
def lendO (i : Nat) (o : Option (Option D)) (s : Sg) : Sg := match o with
  | some (some d) => s.set i (some (lend d))
  | _ => s
theorem ls_1 (i : Nat) (s : Sg) : lendS [i] s = lendO i s[i]? s := by
  simp only [lendS]
  cases s[i]? with
  | none => rfl
  | some o => cases o <;> rfl
theorem lo_s (i : Nat) (d : D) (s : Sg) : lendO i (some (some d)) s = s.set i (some (lend d)) := rfl
theorem stay0 (h0 h : LH) : stay [] h0 h = true := rfl
end Rm
set_option Elab.async false
set_option linter.all false
set_option autoImplicit false
set_option maxRecDepth 100000
/-! repr of plain data -/
namespace Rm
open PySem
mutual
/-- plain data: no int of thirteen digits, no list of the heap -/
def gdT : T → Bool
  | .non => true
  | .bl _ => true
  | .int i => decide (-(10 ^ 12) < i ∧ i < 10 ^ 12)
  | .str s => s.all fun c => decide (c < 0x110000)
  | .tup xs => gdTs xs
  | .fl xs => gdTs xs
  | _ => false
def gdTs : List T → Bool
  | [] => true
  | x :: xs => gdT x && gdTs xs
end
mutual
def wtT : T → Nat
  | .int i => 41
  | .str s => s.length
  | .tup xs => wtTs xs
  | .fl xs => wtTs xs
  | _ => 0
def wtTs : List T → Nat
  | [] => 0
  | x :: xs => wtT x + 1 + wtTs xs
end
mutual
def dpT : T → Nat
  | .tup xs => dpTs xs + 1
  | .fl xs => dpTs xs + 1
  | _ => 0
def dpTs : List T → Nat
  | [] => 0
  | x :: xs => max (dpT x) (dpTs xs)
end
theorem int_short {i : Int} (h : -(10 ^ 12) < i ∧ i < 10 ^ 12) : (PyData.shown (.int i)).length ≤ 13 := by
  have e : PyData.shown (.int i) = Str.ofString (toString i) := by simp only [PyData.shown]
  rw [e, PyProof.Rows.ofString_len]
  exact PySem.int_text_length_le10 (k := 12) (by decide) (by omega)
theorem log_lt {i : Int} (h : -(10 ^ 12) < i ∧ i < 10 ^ 12) : i.natAbs.log2 < 40 := by
  by_cases z : i.natAbs = 0
  · rw [z]; decide
  · rw [Nat.log2_lt z]; omega
mutual
theorem gd_dat : ∀ t : T, gdT t = true → ∃ d, datT t = some d ∧ d.canLay0 = true ∧ d.intsShort 13 = true ∧ d.showable = true ∧ d.hasDict = false ∧ d.depth = dpT t ∧ d.weight ≤ wtT t
  | .non, _ => ⟨_, rfl, rfl, rfl, rfl, rfl, rfl, Nat.le_refl _⟩
  | .bl b, _ => ⟨_, rfl, rfl, rfl, rfl, rfl, rfl, Nat.le_refl _⟩
  | .int i, h => by
    have h' := of_decide_eq_true (show decide (-(10 ^ 12) < i ∧ i < 10 ^ 12) = true from by simpa [gdT] using h)
    have l := log_lt h'
    refine ⟨_, rfl, rfl, ?_, ?_, rfl, rfl, ?_⟩
    · simp only [PyData.intsShort]; exact decide_eq_true (int_short h')
    · simp only [PyData.showable]; exact decide_eq_true (by omega)
    · simp only [PyData.weight, wtT]; split <;> omega
  | .str s, h => by
    refine ⟨_, rfl, ?_, rfl, rfl, rfl, rfl, ?_⟩
    · simp only [PyData.canLay0, PyData.strOk]
      simpa [gdT] using h
    · simp [PyData.weight, wtT]
  | .tup xs, h => by
    obtain ⟨ds, e, a, b, c, d, f, g⟩ := gd_dats xs (by simpa [gdT] using h)
    refine ⟨.tuple ds, by simp [datT, e], by simp [PyData.canLay0, a], by simp [PyData.intsShort, b], by simp [PyData.showable, c], by simp [PyData.hasDict, d], by simp [PyData.depth, dpT, f], by simp [PyData.weight, wtT, g]⟩
  | .fl xs, h => by
    obtain ⟨ds, e, a, b, c, d, f, g⟩ := gd_dats xs (by simpa [gdT] using h)
    refine ⟨.list ds, by simp [datT, e], by simp [PyData.canLay0, a], by simp [PyData.intsShort, b], by simp [PyData.showable, c], by simp [PyData.hasDict, d], by simp [PyData.depth, dpT, f], by simp [PyData.weight, wtT, g]⟩
  | .ref _, h => by simp [gdT] at h
  | .fn _, h => by simp [gdT] at h
theorem gd_dats : ∀ xs : List T, gdTs xs = true → ∃ ds, datTs xs = some ds ∧ PyData.canLayAll0 ds = true ∧ PyData.intsShortAll 13 ds = true ∧ PyData.showableAll ds = true ∧ PyData.hasDictAll ds = false ∧ PyData.depthAll ds = dpTs xs ∧ PyData.weightAll ds ≤ wtTs xs
  | [], _ => ⟨[], rfl, rfl, rfl, rfl, rfl, rfl, Nat.le_refl _⟩
  | x :: xs, h => by
    have h' : gdT x = true ∧ gdTs xs = true := by simpa [gdTs] using h
    obtain ⟨d, e1, a1, b1, c1, d1, f1, g1⟩ := gd_dat x h'.1
    obtain ⟨ds, e, a, b, c, d', f, g⟩ := gd_dats xs h'.2
    exact ⟨d :: ds, by simp [datTs, e1, e], by simp [PyData.canLayAll0, a1, a], by simp [PyData.intsShortAll, b1, b], by simp [PyData.showableAll, c1, c], by simp [PyData.hasDictAll, d1, d'], by simp [PyData.depthAll, dpTs, f1, f], by simp only [PyData.weightAll, wtTs]; omega⟩
end
theorem gd_dat1 (h : LH) : ∀ t : T, gdT t = true → dat1 h t = datT t
  | .ref _, g => by simp [gdT] at g
  | .non, _ => rfl
  | .bl _, _ => rfl
  | .int _, _ => rfl
  | .str _, _ => rfl
  | .tup _, _ => rfl
  | .fl _, _ => rfl
  | .fn _, _ => rfl
theorem gd_dat1s (h : LH) : ∀ xs : List T, gdTs xs = true → dat1s h xs = datTs xs
  | [], _ => rfl
  | x :: xs, g => by
    have h' : gdT x = true ∧ gdTs xs = true := by simpa [gdTs] using g
    simp only [dat1s, datTs, gd_dat1 h x h'.1, gd_dat1s h xs h'.2]
theorem gd_datD (h : LH) (t : T) (g : gdT t = true) : datD h (.s t) = datT t := by
  cases t with
  | ref n => simp [gdT] at g
  | tup xs => simp only [datD, datT, gd_dat1s h xs (by simpa [gdT] using g)]
  | _ => rfl
/-- what repr tells -/
def shT (t : T) : List Nat := match datT t with
  | some d => d.shown.cps.toList
  | none => []
theorem reprT_ok (h : LH) (t : T) (g : gdT t = true) (hd : dpT t ≤ 60) (hw : wtT t ≤ 2 ^ 20) : reprD h (.s t) = some (.s (.str (shT t))) := by
  obtain ⟨d, e, a, b, c, d', f, w⟩ := gd_dat t g
  have lay : d.layable0 = true := by
    simp only [PyData.layable0, a, Bool.true_and, Bool.and_eq_true, decide_eq_true_eq]
    omega
  have sz : sizeOk d.shown.length = true := decide_eq_true (Nat.le_trans (PyProof.Rows.shown_le13 lay b) (by decide))
  simp only [reprD, gd_datD h t g, e, c, sz, d', shT, Bool.true_and, Bool.not_false, Bool.and_true]
  rw [if_pos (decide_eq_true (by omega))]
end Rm
set_option Elab.async false
set_option linter.all false
set_option maxRecDepth 100000
namespace Kp
open Rm
/-- 0: is_among(thing, least, most): slots 0 thing 1 least 2 most -/
def p_is_among : Df := { np := 3, ns := 3, body := [.ret (.and [.isi (.v 0) [.int], .not (.isi (.v 0) [.bool]), .chn .le .le (.v 1) (.v 0) (.v 2)])] }
/-- 2: is_day(thing): slots 0 thing -/
def p_is_day : Df := { np := 1, ns := 1, body := [.ret (.call 0 [.v 0, .c (.int 0), .bin .sub (.g 0) (.c (.int 1))])] }
/-- 16: is_year(thing): slots 0 thing -/
def p_is_year : Df := { np := 1, ns := 1, body := [.ret (.call 0 [.v 0, .c (.int 0), .bin .sub (.bin .fdiv (.g 0) (.g 11)) (.c (.int 1))])] }
/-- 9: is_month(thing): slots 0 thing -/
def p_is_month : Df := { np := 1, ns := 1, body := [.ret (.call 0 [.v 0, .c (.int 0), .bin .sub (.bin .fdiv (.g 0) (.g 12)) (.c (.int 1))])] }
/-- 1: is_name(thing): slots 0 thing 1 letter -/
def p_is_name : Df := { np := 1, ns := 2, body := [.iff (.or [.not (.isi (.v 0) [.str]), .not (.chn .le .le (.c (.int 1)) (.bi .len [.v 0]) (.g 1))]) [.ret (.c (.bl false))] [], .ret (.bi .all [.lc (.cmp .inn (.v 1) (.g 2)) (.n 1) (.e (.v 0)) [] [1]])] }
/-- 42: need_day(thing): slots 0 thing -/
def p_need_day : Df := { np := 1, ns := 1, body := [.iff (.not (.call 2 [.v 0])) [.bad] []] }
/-- 44: need_year(thing): slots 0 thing -/
def p_need_year : Df := { np := 1, ns := 1, body := [.iff (.not (.call 16 [.v 0])) [.bad] []] }
/-- 82: year_of(day): slots 0 day -/
def p_year_of : Df := { np := 1, ns := 1, body := [.ex (.call 42 [.v 0]), .ret (.bin .fdiv (.v 0) (.g 11))] }
/-- 83: month_of(day): slots 0 day -/
def p_month_of : Df := { np := 1, ns := 1, body := [.ex (.call 42 [.v 0]), .ret (.bin .fdiv (.v 0) (.g 12))] }
/-- 84: days_in(year): slots 0 year -/
def p_days_in : Df := { np := 1, ns := 1, body := [.ex (.call 44 [.v 0]), .ret (.bix .list (.rng [.bin .mul (.g 11) (.v 0), .bin .add (.bin .mul (.g 11) (.v 0)) (.g 11)]))] }
/-- 3: is_tuple_of(thing, many): slots 0 thing 1 many -/
def p_is_tuple_of : Df := { np := 2, ns := 2, body := [.ret (.and [.isi (.v 0) [.tup], .cmp .eq (.bi .len [.v 0]) (.v 1)])] }
/-- 10: is_rising(numbers): slots 0 numbers 1 one 2 other -/
def p_is_rising : Df := { np := 1, ns := 3, body := [.ret (.bi .all [.lc (.cmp .lt (.v 1) (.v 2)) (.t [.n 1, .n 2]) (.zp [.v 0, .sl (.v 0) (some (.c (.int 1))) none]) [] [1, 2]])] }
/-- 11: is_table(thing, least, most, is_first, is_second): slots 0 thing 1 least 2 most 3 is_first 4 is_second 5 pair -/
def p_is_table : Df := { np := 5, ns := 6, body := [.iff (.or [.not (.isi (.v 0) [.tup]), .not (.chn .le .le (.v 1) (.bi .len [.v 0]) (.v 2))]) [.ret (.c (.bl false))] [], .iff (.not (.bi .all [.lc (.and [.call 3 [.v 5, .c (.int 2)], .calv 3 [.ix (.v 5) (.c (.int 0))], .calv 4 [.ix (.v 5) (.c (.int 1))]]) (.n 5) (.e (.v 0)) [] [5]])) [.ret (.c (.bl false))] [], .ret (.and [.call 10 [.lc (.ix (.v 5) (.c (.int 0))) (.n 5) (.e (.v 0)) [] [5]], .cmp .eq (.ix (.ix (.v 0) (.c (.int 0))) (.c (.int 0))) (.c (.int 0))])] }
/-- 6: is_land(thing): slots 0 thing -/
def p_is_land : Df := { np := 1, ns := 1, body := [.ret (.call 0 [.v 0, .c (.int 0), .g 3])] }
/-- 12: is_due(thing): slots 0 thing -/
def p_is_due : Df := { np := 1, ns := 1, body := [.ret (.call 0 [.v 0, .c (.int 0), .g 13])] }
/-- 13: is_steps(thing): slots 0 thing -/
def p_is_steps : Df := { np := 1, ns := 1, body := [.ret (.call 11 [.v 0, .c (.int 1), .g 14, .fr 6, .fr 12])] }
/-- 14: is_team(thing): slots 0 thing -/
def p_is_team : Df := { np := 1, ns := 1, body := [.ret (.and [.call 3 [.v 0, .c (.int 2)], .call 6 [.ix (.v 0) (.c (.int 0))], .call 0 [.ix (.v 0) (.c (.int 1)), .c (.int 1), .g 15]])] }
/-- 18: is_field(number, thing): slots 0 number 1 thing -/
def p_is_field : Df := { np := 2, ns := 2, body := [.iff (.cmp .eq (.v 0) (.c (.int 0))) [.ret (.call 13 [.v 1])] [], .iff (.cmp .eq (.v 0) (.c (.int 1))) [.ret (.call 14 [.v 1])] [], .iff (.cmp .eq (.v 0) (.bin .sub (.g 16) (.c (.int 1)))) [.ret (.call 0 [.v 1, .c (.int 1), .g 17])] [], .ret (.call 0 [.v 1, .c (.int 0), .ite (.cmp .lt (.v 0) (.c (.int 4))) (.g 18) (.g 19)])] }
/-- 15: is_lands(thing): slots 0 thing -/
def p_is_lands : Df := { np := 1, ns := 1, body := [.ret (.call 11 [.v 0, .c (.int 1), .g 20, .fr 2, .fr 6])] }
/-- 21: is_house(thing): slots 0 thing -/
def p_is_house : Df := { np := 1, ns := 1, body := [.iff (.or [.not (.call 3 [.v 0, .c (.int 4)]), .not (.call 1 [.ix (.v 0) (.c (.int 0))]), .not (.call 0 [.ix (.v 0) (.c (.int 1)), .c (.int 0), .g 21])]) [.ret (.c (.bl false))] [], .ret (.and [.call 0 [.ix (.v 0) (.c (.int 2)), .c (.int 0), .g 22], .call 15 [.ix (.v 0) (.c (.int 3))]])] }
/-- 17: is_wants(thing): slots 0 thing 1 row 2 number -/
def p_is_wants : Df := { np := 1, ns := 3, body := [.iff (.or [.not (.isi (.v 0) [.tup]), .cmp .gt (.bi .len [.v 0]) (.g 23)]) [.ret (.c (.bl false))] [], .for (.n 1) (.e (.v 0)) [.iff (.or [.not (.call 3 [.v 1, .c (.int 3)]), .not (.call 16 [.ix (.v 1) (.c (.int 0))])]) [.ret (.c (.bl false))] [], .iff (.not (.bi .all [.lc (.call 0 [.v 2, .c (.int 0), .g 24]) (.n 2) (.e (.sl (.v 1) (some (.c (.int 1))) none)) [] [2]])) [.ret (.c (.bl false))] []], .ret (.call 10 [.lc (.ix (.v 1) (.c (.int 0))) (.n 1) (.e (.v 0)) [] [1]])] }
/-- 22: is_stretch(thing): slots 0 thing -/
def p_is_stretch : Df := { np := 1, ns := 1, body := [.iff (.or [.not (.call 3 [.v 0, .c (.int 4)]), .not (.call 1 [.ix (.v 0) (.c (.int 0))]), .not (.call 0 [.ix (.v 0) (.c (.int 1)), .c (.int 0), .g 21])]) [.ret (.c (.bl false))] [], .ret (.and [.call 1 [.ix (.v 0) (.c (.int 2))], .call 17 [.ix (.v 0) (.c (.int 3))]])] }
/-- 20: first_bad(things, is_one): slots 0 things 1 is_one 2 names 3 number 4 thing -/
def p_first_bad : Df := { np := 2, ns := 5, body := [.set true 2 (.lst []), .for (.t [.n 3, .n 4]) (.enm (.v 0)) [.iff (.or [.not (.calv 1 [.v 4]), .cmp .inn (.ix (.v 4) (.c (.int 0))) (.v 2)]) [.rtv 3] [], .app (.v 2) (.ix (.v 4) (.c (.int 0)))], .ret (.c .non)] }
/-- 19: need_act(thing): slots 0 thing 1 number 2 field -/
def p_need_act : Df := { np := 1, ns := 3, body := [.iff (.not (.call 3 [.v 0, .g 16])) [.bad] [], .for (.t [.n 1, .n 2]) (.enm (.v 0)) [.iff (.not (.call 18 [.v 1, .v 2])) [.bad] []]] }
/-- 25: need_roll(thing): slots 0 thing 1 part 2 act 3 houses 4 stretches 5 number -/
def p_need_roll : Df := { np := 1, ns := 6, body := [.iff (.or [.not (.call 3 [.v 0, .c (.int 3)]), .not (.bi .all [.lc (.isi (.v 1) [.tup]) (.n 1) (.e (.v 0)) [] [1]])]) [.bad] [], .unp (.t [.n 2, .n 3, .n 4]) (.v 0), .iff (.or [.cmp .gt (.bi .len [.v 3]) (.g 26), .cmp .gt (.bi .len [.v 4]) (.g 25)]) [.bad] [], .ex (.call 19 [.v 2]), .set false 5 (.call 20 [.v 3, .fr 21]), .iff (.cmp .isn (.v 5) (.c .non)) [.bad] [], .set false 5 (.call 20 [.v 4, .fr 22]), .iff (.cmp .isn (.v 5) (.c .non)) [.bad] [], .rtv 0] }
/-- 26: need_month(thing): slots 0 thing -/
def p_need_month : Df := { np := 1, ns := 1, body := [.iff (.not (.call 9 [.v 0])) [.bad] []] }
/-- 40: called_so(things, name, word): slots 0 things 1 name 2 word 3 thing -/
def p_called_so : Df := { np := 3, ns := 4, body := [.for (.n 3) (.e (.v 0)) [.iff (.and [.isi (.v 1) [.str], .cmp .eq (.ix (.v 3) (.c (.int 0))) (.v 1)]) [.rtv 3] []], .bad] }
/-- 41: house_of(roll, name): slots 0 roll 1 name -/
def p_house_of : Df := { np := 2, ns := 2, body := [.ret (.call 40 [.ix (.v 0) (.c (.int 1)), .v 1, .c (.str [110, 111, 32, 115, 117, 99, 104, 32, 104, 111, 117, 115, 101])])] }
/-- 23: last_of(table, number): slots 0 table 1 number 2 pair -/
def p_last_of : Df := { np := 2, ns := 3, body := [.ret (.ix (.lc (.ix (.v 2) (.c (.int 1))) (.n 2) (.e (.v 0)) [.cmp .le (.ix (.v 2) (.c (.int 0))) (.v 1)] [2]) (.neg (.c (.int 1))))] }
/-- 43: team_on(roll, house, day): slots 0 roll 1 house 2 day -/
def p_team_on : Df := { np := 3, ns := 3, body := [.ret (.cmp .ge (.call 23 [.ix (.v 1) (.c (.int 3)), .v 2]) (.ix (.ix (.ix (.v 0) (.c (.int 0))) (.c (.int 1))) (.c (.int 0))))] }
/-- 24: due_in(roll, house, month): slots 0 roll 1 house 2 month -/
def p_due_in : Df := { np := 3, ns := 3, body := [.ret (.call 23 [.ix (.ix (.v 0) (.c (.int 0))) (.c (.int 0)), .call 23 [.ix (.v 1) (.c (.int 3)), .bin .mul (.g 12) (.v 2)]])] }
/-- 45: due_in_year(roll, house, year): slots 0 roll 1 house 2 year 3 months 4 month -/
def p_due_in_year : Df := { np := 3, ns := 5, body := [.set true 3 (.bin .fdiv (.g 11) (.g 12)), .ret (.bi .sum [.lc (.call 24 [.v 0, .v 1, .v 4]) (.n 4) (.rng [.bin .mul (.v 3) (.v 2), .bin .add (.bin .mul (.v 3) (.v 2)) (.v 3)]) [] [4]])] }
/-- 46: land_on(roll, house, day): slots 0 roll 1 house 2 day 3 found -/
def p_land_on : Df := { np := 3, ns := 4, body := [.set true 3 (.call 41 [.call 25 [.v 0], .v 1]), .ex (.call 42 [.v 2]), .ret (.call 23 [.ix (.v 3) (.c (.int 3)), .v 2])] }
/-- 47: keeps_team(roll, house, day): slots 0 roll 1 house 2 day 3 found -/
def p_keeps_team : Df := { np := 3, ns := 4, body := [.set true 3 (.call 41 [.call 25 [.v 0], .v 1]), .ex (.call 42 [.v 2]), .ret (.call 43 [.v 0, .v 3, .v 2])] }
/-- 48: owed_in(roll, house, month): slots 0 roll 1 house 2 month 3 found -/
def p_owed_in : Df := { np := 3, ns := 4, body := [.set true 3 (.call 41 [.call 25 [.v 0], .v 1]), .ex (.call 26 [.v 2]), .ret (.call 24 [.v 0, .v 3, .v 2])] }
/-- 49: owed(roll, house, year): slots 0 roll 1 house 2 year 3 found -/
def p_owed : Df := { np := 3, ns := 4, body := [.set true 3 (.call 41 [.call 25 [.v 0], .v 1]), .ex (.call 44 [.v 2]), .ret (.call 45 [.v 0, .v 3, .v 2])] }
/-- 50: all_owed(roll, year): slots 0 roll 1 year 2 house -/
def p_all_owed : Df := { np := 2, ns := 3, body := [.ex (.call 25 [.v 0]), .ex (.call 44 [.v 1]), .ret (.bi .dict [.lc (.tup [.ix (.v 2) (.c (.int 0)), .call 45 [.v 0, .v 2, .v 1]]) (.n 2) (.e (.ix (.v 0) (.c (.int 1)))) [] [2]])] }
/-- 30: joined(numbers): slots 0 numbers 1 number -/
def p_joined : Df := { np := 1, ns := 2, body := [.ret (.me .join (.c (.str [58])) [.lc (.bi .str [.v 1]) (.n 1) (.e (.v 0)) [] [1]])] }
/-- 39: roll_text(roll): slots 0 roll 1 act 2 houses 3 stretches 4 rows 5 pair 6 head 7 number 8 name 9 mile 10 hands 11 lands 12 overseer 13 wants 14 row -/
def p_roll_text : Df := { np := 1, ns := 15, body := [.unp (.t [.n 1, .n 2, .n 3]) (.call 25 [.v 0]), .set true 4 (.lst [.me .join (.c (.str [32])) [.bin .add (.lst [.c (.str [115, 116, 101, 112, 115])]) (.lc (.call 30 [.v 5]) (.n 5) (.e (.ix (.v 1) (.c (.int 0)))) [] [5])], .bin .add (.c (.str [116, 101, 97, 109, 32])) (.call 30 [.ix (.v 1) (.c (.int 1))])]), .for (.t [.n 6, .n 7]) (.zp [.sl (.g 27) (some (.c (.int 2))) none, .sl (.v 1) (some (.c (.int 2))) none]) [.app (.v 4) (.bin .add (.bin .add (.v 6) (.c (.str [32]))) (.bi .str [.v 7]))], .for (.t [.n 8, .n 9, .n 10, .n 11]) (.e (.v 2)) [.app (.v 4) (.me .join (.c (.str [32])) [.bin .add (.lst [.c (.str [104, 111, 117, 115, 101]), .v 8, .bi .str [.v 9], .bi .str [.v 10]]) (.lc (.call 30 [.v 5]) (.n 5) (.e (.v 11)) [] [5])])], .for (.t [.n 8, .n 9, .n 12, .n 13]) (.e (.v 3)) [.app (.v 4) (.me .join (.c (.str [32])) [.bin .add (.lst [.c (.str [115, 116, 114, 101, 116, 99, 104]), .v 8, .bi .str [.v 9], .v 12]) (.lc (.call 30 [.v 14]) (.n 14) (.e (.v 13)) [] [14])])], .ret (.me .join (.c (.str [10])) [.v 4])] }
/-- 31: number_in(word): slots 0 word 1 sign -/
def p_number_in : Df := { np := 1, ns := 2, body := [.iff (.or [.not (.chn .le .le (.c (.int 1)) (.bi .len [.v 0]) (.g 29)), .not (.bi .all [.lc (.cmp .inn (.v 1) (.g 28)) (.n 1) (.e (.v 0)) [] [1]])]) [.ret (.c .non)] [], .ret (.ite (.and [.cmp .eq (.ix (.v 0) (.c (.int 0))) (.c (.str [48])), .cmp .ne (.v 0) (.c (.str [48]))]) (.c .non) (.bi .int [.v 0]))] }
/-- 32: numbers_in(word): slots 0 word 1 found 2 part -/
def p_numbers_in : Df := { np := 1, ns := 3, body := [.set true 1 (.lc (.call 31 [.v 2]) (.n 2) (.e (.me .split (.v 0) [.c (.str [58])])) [] [2]), .ret (.ite (.cmp .inn (.c .non) (.v 1)) (.c .non) (.bi .tuple [.v 1]))] }
/-- 33: table_in(words): slots 0 words 1 found 2 word -/
def p_table_in : Df := { np := 1, ns := 3, body := [.set true 1 (.lc (.call 32 [.v 2]) (.n 2) (.e (.v 0)) [] [2]), .ret (.ite (.cmp .inn (.c .non) (.v 1)) (.c .non) (.bi .tuple [.v 1]))] }
/-- 34: field_in(number, row): slots 0 number 1 row 2 words 3 found -/
def p_field_in : Df := { np := 2, ns := 4, body := [.set true 2 (.me .split (.v 1) [.c (.str [32])]), .iff (.cmp .ne (.ix (.v 2) (.c (.int 0))) (.ix (.g 27) (.v 0))) [.ret (.c .non)] [], .iff (.cmp .eq (.v 0) (.c (.int 0))) [.set true 3 (.call 33 [.sl (.v 2) (some (.c (.int 1))) none])] [.iff (.cmp .ne (.bi .len [.v 2]) (.c (.int 2))) [.ret (.c .non)] [.set true 3 (.ite (.cmp .eq (.v 0) (.c (.int 1))) (.call 32 [.ix (.v 2) (.c (.int 1))]) (.call 31 [.ix (.v 2) (.c (.int 1))]))]], .iff (.or [.cmp .is (.v 3) (.c .non), .not (.call 18 [.v 0, .v 3])]) [.ret (.c .non)] [], .rtv 3] }
/-- 36: house_in(row): slots 0 row 1 words 2 found -/
def p_house_in : Df := { np := 1, ns := 3, body := [.set true 1 (.me .split (.v 0) [.c (.str [32])]), .iff (.or [.cmp .lt (.bi .len [.v 1]) (.c (.int 5)), .cmp .ne (.ix (.v 1) (.c (.int 0))) (.c (.str [104, 111, 117, 115, 101]))]) [.ret (.c .non)] [], .set false 2 (.tup [.ix (.v 1) (.c (.int 1)), .call 31 [.ix (.v 1) (.c (.int 2))], .call 31 [.ix (.v 1) (.c (.int 3))], .call 33 [.sl (.v 1) (some (.c (.int 4))) none]]), .ret (.ite (.call 21 [.v 2]) (.v 2) (.c .non))] }
/-- 37: stretch_in(row): slots 0 row 1 words 2 found -/
def p_stretch_in : Df := { np := 1, ns := 3, body := [.set true 1 (.me .split (.v 0) [.c (.str [32])]), .iff (.or [.cmp .lt (.bi .len [.v 1]) (.c (.int 4)), .cmp .ne (.ix (.v 1) (.c (.int 0))) (.c (.str [115, 116, 114, 101, 116, 99, 104]))]) [.ret (.c .non)] [], .set false 2 (.tup [.ix (.v 1) (.c (.int 1)), .call 31 [.ix (.v 1) (.c (.int 2))], .ix (.v 1) (.c (.int 3)), .call 33 [.sl (.v 1) (some (.c (.int 4))) none]]), .ret (.ite (.call 22 [.v 2]) (.v 2) (.c .non))] }
/-- 35: put_in_list(found, thing, most, row): slots 0 found 1 thing 2 most 3 row 4 other -/
def p_put_in_list : Df := { np := 4, ns := 5, body := [.iff (.or [.cmp .is (.v 1) (.c .non), .cmp .eq (.bi .len [.v 0]) (.v 2), .cmp .inn (.ix (.v 1) (.c (.int 0))) (.lc (.ix (.v 4) (.c (.int 0))) (.n 4) (.e (.v 0)) [] [4])]) [.bad] [], .app (.v 0) (.v 1)] }
/-- 38: read_roll(text): slots 0 text 1 rows 2 act 3 houses 4 stretches 5 number 6 row 7 field -/
def p_read_roll : Df := { np := 1, ns := 8, body := [.iff (.not (.isi (.v 0) [.str])) [.bad] [], .set true 1 (.ite (.cmp .ne (.v 0) (.c (.str []))) (.me .split (.v 0) [.c (.str [10])]) (.lst [])), .par [(true, 2), (false, 3), (false, 4)] [.lst [], .lst [], .lst []], .for (.t [.n 5, .n 6]) (.enm (.v 1)) [.iff (.cmp .lt (.v 5) (.g 16)) [.set false 7 (.call 34 [.v 5, .v 6]), .iff (.cmp .is (.v 7) (.c .non)) [.bad] [], .app (.v 2) (.v 7)] [.iff (.and [.cmp .eq (.v 4) (.lst []), .cmp .eq (.ix (.me .split (.v 6) [.c (.str [32])]) (.c (.int 0))) (.c (.str [104, 111, 117, 115, 101]))]) [.ex (.call 35 [.v 3, .fx (.call 36 [.v 6]), .g 26, .v 5])] [.ex (.call 35 [.v 4, .fx (.call 37 [.v 6]), .g 25, .v 5])]]], .iff (.cmp .lt (.bi .len [.v 2]) (.g 16)) [.bad] [], .ret (.tup [.bi .tuple [.v 2], .bi .tuple [.v 3], .bi .tuple [.v 4]])] }
/-- 51: is_one_of(thing, names): slots 0 thing 1 names -/
def p_is_one_of : Df := { np := 2, ns := 2, body := [.ret (.and [.isi (.v 0) [.str], .cmp .inn (.v 0) (.v 1)])] }
/-- 53: need_books(roll, books): slots 0 roll 1 books 2 overseers 3 stretch 4 met 5 number 6 book 7 is_good -/
def p_need_books : Df := { np := 2, ns := 8, body := [.set true 2 (.lc (.ix (.v 3) (.c (.int 2))) (.n 3) (.e (.ix (.v 0) (.c (.int 2)))) [] [3]), .set true 4 (.lst []), .for (.t [.n 5, .n 6]) (.enm (.v 1)) [.set true 7 (.and [.call 3 [.v 6, .c (.int 2)], .call 51 [.ix (.v 6) (.c (.int 0)), .v 2], .cmp .nin (.ix (.v 6) (.c (.int 0))) (.v 4)]), .iff (.or [.not (.v 7), .not (.isi (.ix (.v 6) (.c (.int 1))) [.tup]), .cmp .gt (.bi .len [.ix (.v 6) (.c (.int 1))]) (.g 7)]) [.bad] [], .app (.v 4) (.ix (.v 6) (.c (.int 0)))]] }
/-- 52: is_entry(roll, overseer, thing): slots 0 roll 1 overseer 2 thing 3 house 4 stretch -/
def p_is_entry : Df := { np := 3, ns := 5, body := [.iff (.or [.not (.call 3 [.v 2, .c (.int 5)]), .not (.call 2 [.ix (.v 2) (.c (.int 0))])]) [.ret (.c (.bl false))] [], .iff (.not (.call 51 [.ix (.v 2) (.c (.int 1)), .lc (.ix (.v 3) (.c (.int 0))) (.n 3) (.e (.ix (.v 0) (.c (.int 1)))) [] [3]])) [.ret (.c (.bl false))] [], .iff (.not (.call 51 [.ix (.v 2) (.c (.int 2)), .lc (.ix (.v 4) (.c (.int 0))) (.n 4) (.e (.ix (.v 0) (.c (.int 2)))) [.cmp .eq (.ix (.v 4) (.c (.int 2))) (.v 1)] [4]])) [.ret (.c (.bl false))] [], .ret (.and [.call 51 [.ix (.v 2) (.c (.int 3)), .g 5], .call 0 [.ix (.v 2) (.c (.int 4)), .c (.int 1), .g 4]])] }
/-- 54: need_entries(roll, books): slots 0 roll 1 books 2 number 3 book 4 place 5 entry -/
def p_need_entries : Df := { np := 2, ns := 6, body := [.for (.t [.n 2, .n 3]) (.enm (.v 1)) [.for (.t [.n 4, .n 5]) (.enm (.ix (.v 3) (.c (.int 1)))) [.iff (.not (.call 52 [.v 0, .ix (.v 3) (.c (.int 0)), .v 5])) [.bad] []]]] }
/-- 55: need_rain(rain): slots 0 rain 1 last 2 number 3 day -/
def p_need_rain : Df := { np := 1, ns := 4, body := [.set true 1 (.neg (.c (.int 1))), .for (.t [.n 2, .n 3]) (.enm (.v 0)) [.iff (.or [.not (.call 2 [.v 3]), .cmp .le (.v 3) (.v 1)]) [.bad] [], .set true 1 (.v 3)]] }
/-- 56: is_payment(roll, thing): slots 0 roll 1 thing 2 house -/
def p_is_payment : Df := { np := 2, ns := 3, body := [.iff (.or [.not (.call 3 [.v 1, .c (.int 3)]), .not (.call 2 [.ix (.v 1) (.c (.int 0))])]) [.ret (.c (.bl false))] [], .ret (.and [.call 51 [.ix (.v 1) (.c (.int 1)), .lc (.ix (.v 2) (.c (.int 0))) (.n 2) (.e (.ix (.v 0) (.c (.int 1)))) [] [2]], .call 0 [.ix (.v 1) (.c (.int 2)), .c (.int 1), .g 6]])] }
/-- 58: need_record(roll, thing): slots 0 roll 1 thing 2 part 3 books 4 rain 5 payments 6 number 7 payment -/
def p_need_record : Df := { np := 2, ns := 8, body := [.ex (.call 25 [.v 0]), .iff (.or [.not (.call 3 [.v 1, .c (.int 3)]), .not (.bi .all [.lc (.isi (.v 2) [.tup]) (.n 2) (.e (.v 1)) [] [2]])]) [.bad] [], .unp (.t [.n 3, .n 4, .n 5]) (.v 1), .iff (.or [.cmp .gt (.bi .len [.v 3]) (.g 31), .cmp .gt (.bi .len [.v 5]) (.g 30)]) [.bad] [], .ex (.call 53 [.v 0, .v 3]), .ex (.call 54 [.v 0, .v 3]), .ex (.call 55 [.v 4]), .for (.t [.n 6, .n 7]) (.enm (.v 5)) [.iff (.not (.call 56 [.v 0, .v 7])) [.bad] []], .rtv 1] }
/-- 57: word_of(roll, rain, came, entry): slots 0 roll 1 rain 2 came 3 entry 4 day 5 name 6 stretch 7 word 8 many 9 house 10 ahead -/
def p_word_of : Df := { np := 4, ns := 11, body := [.unp (.t [.n 4, .n 5, .n 6, .n 7, .n 8]) (.v 3), .set true 9 (.call 41 [.v 0, .v 5]), .iff (.cmp .inn (.v 4) (.v 1)) [.ret (.c (.str [114, 97, 105, 110]))] [], .iff (.and [.cmp .eq (.v 7) (.g 10), .not (.call 43 [.v 0, .v 9, .v 4])]) [.ret (.c (.str [110, 111, 110, 101]))] [], .set true 10 (.me .get (.v 2) [.tup [.v 5, .v 4, .v 7], .c (.int 0)]), .iff (.or [.and [.cmp .eq (.v 7) (.g 10), .cmp .gt (.v 10) (.c (.int 0))], .and [.cmp .eq (.v 7) (.g 9), .cmp .gt (.bin .add (.v 10) (.v 8)) (.ix (.v 9) (.c (.int 2)))]]) [.ret (.g 32)] [], .ret (.g 33)] }
/-- 59: stood(roll, record): slots 0 roll 1 record 2 books 3 rain 4 payments 5 came 6 firsts 7 found 8 number 9 book 10 place 11 entry 12 day 13 name 14 stretch 15 word 16 many 17 key 18 told 19 other -/
def p_stood : Df := { np := 2, ns := 20, body := [.unp (.t [.n 2, .n 3, .n 4]) (.v 1), .set true 5 (.dsp true []), .set true 6 (.dsp true []), .set true 7 (.lst []), .for (.t [.n 8, .n 9]) (.enm (.v 2)) [.for (.t [.n 10, .n 11]) (.enm (.ix (.v 9) (.c (.int 1)))) [.unp (.t [.n 12, .n 13, .n 14, .n 15, .n 16]) (.v 11), .set false 17 (.tup [.v 13, .v 12, .v 15]), .set false 18 (.call 57 [.v 0, .v 3, .v 5, .v 11]), .set false 19 (.g 34), .iff (.cmp .eq (.v 18) (.g 33)) [.put (.v 5) (.v 17) (.bin .add (.me .get (.v 5) [.v 17, .c (.int 0)]) (.v 16)), .sdf (.v 6) (.v 17) (.tup [.v 8, .v 10])] [], .iff (.and [.cmp .eq (.v 18) (.g 32), .or [.cmp .eq (.v 15) (.g 10), .cmp .le (.v 16) (.ix (.call 41 [.v 0, .v 13]) (.c (.int 2)))]]) [.set false 19 (.ix (.v 6) (.v 17))] [], .app (.v 7) (.tup [.v 8, .v 10, .v 11, .v 18, .v 19])]], .rtv 7] }
/-- 60: standing(roll, record): slots 0 roll 1 record 2 found 3 book 4 number 5 place 6 entry 7 told 8 other -/
def p_standing : Df := { np := 2, ns := 9, body := [.ex (.call 58 [.v 0, .v 1]), .set true 2 (.lc (.lst []) (.n 3) (.e (.ix (.v 1) (.c (.int 0)))) [] [3]), .for (.t [.n 4, .n 5, .n 6, .n 7, .n 8]) (.e (.call 59 [.v 0, .v 1])) [.app (.ix (.v 2) (.v 4)) (.v 7)], .rtv 2] }
/-- 61: counted_in(roll, record): slots 0 roll 1 record 2 count 3 loads 4 found 5 number 6 place 7 entry 8 told 9 other 10 is_team 11 days -/
def p_counted_in : Df := { np := 2, ns := 12, body := [.par [(false, 2), (true, 3)] [.ix (.ix (.ix (.v 0) (.c (.int 0))) (.c (.int 1))) (.c (.int 1)), .ix (.ix (.v 0) (.c (.int 0))) (.c (.int 6))], .set true 4 (.lst []), .for (.t [.n 5, .n 6, .n 7, .n 8, .n 9]) (.e (.call 59 [.v 0, .v 1])) [.iff (.cmp .eq (.v 8) (.g 33)) [.set true 10 (.cmp .eq (.ix (.v 7) (.c (.int 3))) (.g 10)), .set false 11 (.ite (.v 10) (.v 2) (.ix (.v 7) (.c (.int 4)))), .app (.v 4) (.tup [.ix (.v 7) (.c (.int 0)), .v 5, .v 6, .v 11, .ite (.v 10) (.bin .mul (.ix (.v 7) (.c (.int 4))) (.v 3)) (.c (.int 0))])] []], .ret (.bi .sorted [.v 4])] }
/-- 62: counted(roll, record): slots 0 roll 1 record -/
def p_counted : Df := { np := 2, ns := 2, body := [.ex (.call 58 [.v 0, .v 1]), .ret (.call 61 [.v 0, .v 1])] }
/-- 85: clashes(roll, record): slots 0 roll 1 record 2 number 3 place 4 entry 5 told 6 other -/
def p_clashes : Df := { np := 2, ns := 7, body := [.ex (.call 58 [.v 0, .v 1]), .ret (.lc (.bin .add (.tup [.v 2, .v 3]) (.v 6)) (.t [.n 2, .n 3, .n 4, .n 5, .n 6]) (.e (.call 59 [.v 0, .v 1])) [.cmp .eq (.v 5) (.g 32)] [2, 3, 4, 5, 6])] }
/-- 86: days_on(roll, record, house, day): slots 0 roll 1 record 2 house 3 day 4 found 5 own 6 number 7 place 8 days 9 loads -/
def p_days_on : Df := { np := 4, ns := 10, body := [.ex (.call 58 [.v 0, .v 1]), .ex (.call 41 [.v 0, .v 2]), .ex (.call 42 [.v 3]), .set true 4 (.c (.int 0)), .for (.t [.n 5, .n 6, .n 7, .n 8, .n 9]) (.e (.call 61 [.v 0, .v 1])) [.iff (.and [.cmp .eq (.v 5) (.v 3), .cmp .eq (.ix (.ix (.ix (.ix (.ix (.v 1) (.c (.int 0))) (.v 6)) (.c (.int 1))) (.v 7)) (.c (.int 1))) (.v 2)]) [.aug 4 .add (.v 8)] []], .rtv 4] }
/-- 69: rows_counted(roll, record): slots 0 roll 1 record 2 found 3 day 4 b 5 e 6 days 7 loads 8 entry -/
def p_rows_counted : Df := { np := 2, ns := 9, body := [.set true 2 (.lst []), .for (.t [.n 3, .n 4, .n 5, .n 6, .n 7]) (.e (.call 62 [.v 0, .v 1])) [.set true 8 (.ix (.ix (.ix (.ix (.v 1) (.c (.int 0))) (.v 4)) (.c (.int 1))) (.v 5)), .app (.v 2) (.tup [.ix (.v 8) (.c (.int 1)), .v 3, .ix (.v 8) (.c (.int 2)), .v 6, .v 7])], .rtv 2] }
/-- 63: in_year(day, year): slots 0 day 1 year -/
def p_in_year : Df := { np := 2, ns := 2, body := [.ret (.cmp .eq (.bin .fdiv (.v 0) (.g 11)) (.v 1))] }
/-- 67: days_paid(record, name, year): slots 0 record 1 name 2 year 3 payment -/
def p_days_paid : Df := { np := 3, ns := 4, body := [.ret (.bi .sum [.lc (.ix (.v 3) (.c (.int 2))) (.n 3) (.e (.ix (.v 0) (.c (.int 2)))) [.and [.cmp .eq (.ix (.v 3) (.c (.int 1))) (.v 1), .call 63 [.ix (.v 3) (.c (.int 0)), .v 2]]] [3]])] }
/-- 64: parted(rows, needed): slots 0 rows 1 needed 2 done 3 beyond 4 left 5 day 6 stretch 7 days 8 part -/
def p_parted : Df := { np := 2, ns := 9, body := [.par [(false, 2), (false, 3)] [.lst [], .lst []], .set true 4 (.v 1), .for (.t [.n 5, .n 6, .n 7]) (.e (.v 0)) [.set false 8 (.bi .min [.v 4, .v 7]), .app (.v 2) (.tup [.v 5, .v 6, .v 8]), .app (.v 3) (.tup [.v 5, .v 6, .bin .sub (.v 7) (.v 8)]), .set true 4 (.bin .sub (.v 4) (.v 8))], .ret (.tup [.v 2, .v 3])] }
/-- 65: in_all(rows): slots 0 rows 1 row -/
def p_in_all : Df := { np := 1, ns := 2, body := [.ret (.bi .sum [.lc (.ix (.v 1) (.c (.int 2))) (.n 1) (.e (.v 0)) [] [1]])] }
/-- 66: settled(act, due, brought, rows, paid): slots 0 act 1 due 2 brought 3 rows 4 paid 5 done 6 beyond 7 worked 8 old 9 left 10 carried 11 fined 12 money -/
def p_settled : Df := { np := 5, ns := 13, body := [.unp (.t [.n 5, .n 6]) (.call 64 [.v 3, .fx (.bin .add (.v 1) (.v 2))]), .set false 7 (.call 65 [.v 5]), .set false 4 (.bi .min [.v 4, .ix (.v 0) (.c (.int 4)), .bin .sub (.bin .add (.v 1) (.v 2)) (.v 7)]), .set true 8 (.bi .max [.c (.int 0), .bin .sub (.bin .sub (.v 2) (.v 7)) (.v 4)]), .set true 9 (.bin .sub (.bin .sub (.bin .add (.v 1) (.v 2)) (.v 7)) (.v 4)), .set false 10 (.bi .min [.bin .sub (.v 9) (.v 8), .ix (.v 0) (.c (.int 5))]), .set false 11 (.bin .sub (.v 9) (.v 10)), .set false 12 (.bin .add (.bin .mul (.v 4) (.ix (.v 0) (.c (.int 2)))) (.bin .mul (.v 11) (.ix (.v 0) (.c (.int 3))))), .ret (.tup [.tup [.v 1, .v 2, .v 7, .v 4, .v 10, .v 11, .call 65 [.v 6], .v 12], .v 5, .v 6])] }
/-- 68: settled_in(roll, record, rows, name, year): slots 0 roll 1 record 2 rows 3 name 4 year 5 house 6 found 7 brought 8 number 9 own 10 row 11 due -/
def p_settled_in : Df := { np := 5, ns := 12, body := [.set true 5 (.call 41 [.v 0, .v 3]), .set true 6 (.c .non), .set false 7 (.c (.int 0)), .for (.n 8) (.rng [.bin .add (.v 4) (.c (.int 1))]) [.set true 9 (.lc (.sl (.v 10) (some (.c (.int 1))) (some (.c (.int 4)))) (.n 10) (.e (.v 2)) [.and [.cmp .eq (.ix (.v 10) (.c (.int 0))) (.v 3), .call 63 [.ix (.v 10) (.c (.int 1)), .v 8]]] [10]), .set false 11 (.call 45 [.v 0, .v 5, .v 8]), .set true 6 (.call 66 [.ix (.v 0) (.c (.int 0)), .v 11, .v 7, .v 9, .fx (.call 67 [.v 1, .v 3, .v 8])]), .set false 7 (.ix (.ix (.v 6) (.c (.int 0))) (.c (.int 4)))], .rtv 6] }
/-- 70: asked_of(roll, record, house, year): slots 0 roll 1 record 2 house 3 year -/
def p_asked_of : Df := { np := 4, ns := 4, body := [.ex (.call 58 [.v 0, .v 1]), .ex (.call 41 [.v 0, .v 2]), .ex (.call 44 [.v 3]), .ret (.call 68 [.v 0, .v 1, .call 69 [.v 0, .v 1], .v 2, .v 3])] }
/-- 72: account(roll, record, house, year): slots 0 roll 1 record 2 house 3 year -/
def p_account : Df := { np := 4, ns := 4, body := [.ret (.ix (.call 70 [.v 0, .v 1, .v 2, .v 3]) (.c (.int 0)))] }
/-- 71: accounts(roll, record, year): slots 0 roll 1 record 2 year 3 rows 4 house -/
def p_accounts : Df := { np := 3, ns := 5, body := [.ex (.call 58 [.v 0, .v 1]), .ex (.call 44 [.v 2]), .set true 3 (.call 69 [.v 0, .v 1]), .ret (.bi .dict [.lc (.tup [.ix (.v 4) (.c (.int 0)), .ix (.call 68 [.v 0, .v 1, .v 3, .ix (.v 4) (.c (.int 0)), .v 2]) (.c (.int 0))]) (.n 4) (.e (.ix (.v 0) (.c (.int 1)))) [] [4]])] }
/-- 73: money_in(roll, record, year): slots 0 roll 1 record 2 year 3 row -/
def p_money_in : Df := { np := 3, ns := 4, body := [.ret (.bi .sum [.lc (.ix (.v 3) (.c (.int 7))) (.n 3) (.vls (.call 71 [.v 0, .v 1, .v 2])) [] [3]])] }
/-- 87: together(rows): slots 0 rows 1 found 2 day 3 stretch 4 days 5 key -/
def p_together : Df := { np := 1, ns := 6, body := [.set true 1 (.dsp true []), .for (.t [.n 2, .n 3, .n 4]) (.e (.v 0)) [.put (.v 1) (.tup [.v 2, .v 3]) (.bin .add (.me .get (.v 1) [.tup [.v 2, .v 3], .c (.int 0)]) (.v 4))], .ret (.lc (.tup [.ix (.v 5) (.c (.int 0)), .ix (.v 5) (.c (.int 1)), .ix (.v 1) (.v 5)]) (.n 5) (.e (.bi .sorted [.v 1])) [.cmp .gt (.ix (.v 1) (.v 5)) (.c (.int 0))] [5])] }
/-- 88: shares(roll, record, house, year): slots 0 roll 1 record 2 house 3 year -/
def p_shares : Df := { np := 4, ns := 4, body := [.ret (.call 87 [.ix (.call 70 [.v 0, .v 1, .v 2, .v 3]) (.c (.int 1))])] }
/-- 89: over(roll, record, house, year): slots 0 roll 1 record 2 house 3 year -/
def p_over : Df := { np := 4, ns := 4, body := [.ret (.call 87 [.ix (.call 70 [.v 0, .v 1, .v 2, .v 3]) (.c (.int 2))])] }
/-- 90: by_stretch(roll, record, year): slots 0 roll 1 record 2 year 3 found 4 stretch 5 name 6 day 7 days 8 loads -/
def p_by_stretch : Df := { np := 3, ns := 9, body := [.ex (.call 58 [.v 0, .v 1]), .ex (.call 44 [.v 2]), .set true 3 (.bi .dict [.lc (.tup [.ix (.v 4) (.c (.int 0)), .tup [.c (.int 0), .c (.int 0)]]) (.n 4) (.e (.ix (.v 0) (.c (.int 2)))) [] [4]]), .for (.t [.n 5, .n 6, .n 4, .n 7, .n 8]) (.e (.call 69 [.v 0, .v 1])) [.iff (.call 63 [.v 6, .v 2]) [.put (.v 3) (.v 4) (.tup [.bin .add (.ix (.ix (.v 3) (.v 4)) (.c (.int 0))) (.v 7), .bin .add (.ix (.ix (.v 3) (.v 4)) (.c (.int 1))) (.v 8)])] []], .rtv 3] }
/-- 28: days_given(roll, month): slots 0 roll 1 month 2 house -/
def p_days_given : Df := { np := 2, ns := 3, body := [.ret (.lc (.call 24 [.v 0, .v 2, .v 1]) (.n 2) (.e (.ix (.v 0) (.c (.int 1)))) [] [2])] }
/-- 27: by_names(things, numbers): slots 0 things 1 numbers 2 thing 3 number -/
def p_by_names : Df := { np := 2, ns := 4, body := [.ret (.bi .dict [.lc (.tup [.ix (.v 2) (.c (.int 0)), .v 3]) (.t [.n 2, .n 3]) (.zp [.v 0, .v 1]) [] [2, 3]])] }
/-- 29: gives(roll, month): slots 0 roll 1 month -/
def p_gives : Df := { np := 2, ns := 2, body := [.ex (.call 25 [.v 0]), .ex (.call 26 [.v 1]), .ret (.call 27 [.ix (.v 0) (.c (.int 1)), .call 28 [.v 0, .v 1]])] }
/-- 76: days_asked(roll, record, month): slots 0 roll 1 record 2 month 3 first 4 year 5 came 6 day 7 book 8 place 9 days 10 loads 11 name 12 found 13 mile 14 overseer 15 wants 16 wanted 17 row -/
def p_days_asked : Df := { np := 3, ns := 18, body := [.set true 3 (.bin .mul (.g 12) (.v 2)), .set true 4 (.bin .fdiv (.v 3) (.g 11)), .set true 5 (.dsp false []), .for (.t [.n 6, .n 7, .n 8, .n 9, .n 10]) (.e (.call 61 [.v 0, .v 1])) [.iff (.chn .le .lt (.bin .mul (.g 11) (.v 4)) (.v 6) (.v 3)) [.set false 11 (.ix (.ix (.ix (.ix (.ix (.v 1) (.c (.int 0))) (.v 7)) (.c (.int 1))) (.v 8)) (.c (.int 2))), .put (.v 5) (.v 11) (.bin .add (.me .get (.v 5) [.v 11, .c (.int 0)]) (.v 9))] []], .set true 12 (.lst []), .for (.t [.n 11, .n 13, .n 14, .n 15]) (.e (.ix (.v 0) (.c (.int 2)))) [.set true 16 (.bi .sum [.lc (.ix (.v 17) (.c (.int 1))) (.n 17) (.e (.v 15)) [.cmp .eq (.ix (.v 17) (.c (.int 0))) (.v 4)] [17]]), .app (.v 12) (.bi .max [.c (.int 0), .bin .sub (.v 16) (.me .get (.v 5) [.v 11, .c (.int 0)])])], .rtv 12] }
/-- 91: asks(roll, record, month): slots 0 roll 1 record 2 month -/
def p_asks : Df := { np := 3, ns := 3, body := [.ex (.call 58 [.v 0, .v 1]), .ex (.call 26 [.v 2]), .ret (.call 27 [.ix (.v 0) (.c (.int 2)), .call 76 [.v 0, .v 1, .v 2]])] }
/-- 92: _wall(k): slots 0 k -/
def p__wall : Df := { np := 1, ns := 1, body := [.whl (.c (.bl true)) [.pas]] }
/-- 74: need_reach(thing): slots 0 thing -/
def p_need_reach : Df := { np := 1, ns := 1, body := [.iff (.not (.call 0 [.v 0, .c (.int 0), .g 21])) [.bad] []] }
/-- 79: need_asked(roll, record, month, reach): slots 0 roll 1 record 2 month 3 reach -/
def p_need_asked : Df := { np := 4, ns := 4, body := [.ex (.call 58 [.v 0, .v 1]), .ex (.call 26 [.v 2]), .ex (.call 74 [.v 3])] }
/-- 75: miles_apart(house, stretch): slots 0 house 1 stretch -/
def p_miles_apart : Df := { np := 2, ns := 2, body := [.ret (.bi .abs [.bin .sub (.ix (.v 0) (.c (.int 1))) (.ix (.v 1) (.c (.int 1)))])] }
/-- 77: nearness(roll, reach): slots 0 roll 1 reach 2 stretch 3 house -/
def p_nearness : Df := { np := 2, ns := 4, body := [.ret (.lc (.lc (.cmp .le (.call 75 [.v 3, .v 2]) (.v 1)) (.n 2) (.e (.ix (.v 0) (.c (.int 2)))) [] [2]) (.n 3) (.e (.ix (.v 0) (.c (.int 1)))) [] [3])] }
/-- 95: gets(roll, record, month, reach): slots 0 roll 1 record 2 month 3 reach -/
def p_gets : Df := { np := 4, ns := 4, body := [.ex (.call 79 [.v 0, .v 1, .v 2, .v 3]), .ret (.call 27 [.ix (.v 0) (.c (.int 2)), .call 94 [.v 0, .v 1, .v 2, .v 3]])] }
/-- 96: lacks(roll, record, month, reach): slots 0 roll 1 record 2 month 3 reach 4 asked 5 got 6 one 7 other -/
def p_lacks : Df := { np := 4, ns := 8, body := [.ex (.call 79 [.v 0, .v 1, .v 2, .v 3]), .par [(true, 4), (true, 5)] [.call 76 [.v 0, .v 1, .v 2], .call 94 [.v 0, .v 1, .v 2, .v 3]], .ret (.call 27 [.ix (.v 0) (.c (.int 2)), .lc (.bin .sub (.v 6) (.v 7)) (.t [.n 6, .n 7]) (.zp [.v 4, .v 5]) [] [6, 7]])] }
/-- 97: is_stretch_set(roll, thing): slots 0 roll 1 thing 2 number -/
def p_is_stretch_set : Df := { np := 2, ns := 3, body := [.iff (.or [.not (.isi (.v 1) [.tup]), .not (.bi .all [.lc (.call 0 [.v 2, .c (.int 0), .bin .sub (.bi .len [.ix (.v 0) (.c (.int 2))]) (.c (.int 1))]) (.n 2) (.e (.v 1)) [] [2]])]) [.ret (.c (.bl false))] [], .ret (.call 10 [.v 1])] }
/-- 98: short_so(roll, record, month, reach, numbers): slots 0 roll 1 record 2 month 3 reach 4 numbers 5 asked 6 given 7 rows 8 helping 9 house 10 row 11 number -/
def p_short_so : Df := { np := 5, ns := 12, body := [.par [(true, 5), (true, 6)] [.call 76 [.v 0, .v 1, .v 2], .call 28 [.v 0, .v 2]], .set true 7 (.call 77 [.v 0, .v 3]), .set true 8 (.lc (.v 9) (.t [.n 9, .n 10]) (.enm (.v 7)) [.bi .any [.lc (.ix (.v 10) (.v 11)) (.n 11) (.e (.v 4)) [] [11]]] [9, 10]), .ret (.bin .sub (.bi .sum [.lc (.ix (.v 5) (.v 11)) (.n 11) (.e (.v 4)) [] [11]]) (.bi .sum [.lc (.ix (.v 6) (.v 9)) (.n 9) (.e (.v 8)) [] [9]]))] }
/-- 99: short_by(roll, record, month, reach, stretches): slots 0 roll 1 record 2 month 3 reach 4 stretches -/
def p_short_by : Df := { np := 5, ns := 5, body := [.ex (.call 79 [.v 0, .v 1, .v 2, .v 3]), .iff (.not (.call 97 [.v 0, .v 4])) [.bad] [], .ret (.call 98 [.v 0, .v 1, .v 2, .v 3, .v 4])] }
/-- 78: is_spread_row(thing, row, most): slots 0 thing 1 row 2 most 3 number 4 near -/
def p_is_spread_row : Df := { np := 3, ns := 5, body := [.iff (.or [.not (.call 3 [.v 0, .bi .len [.v 1]]), .not (.bi .all [.lc (.call 0 [.v 3, .c (.int 0), .v 2]) (.n 3) (.e (.v 0)) [] [3]])]) [.ret (.c (.bl false))] [], .ret (.and [.cmp .le (.bi .sum [.v 0]) (.v 2), .bi .all [.lc (.or [.v 4, .cmp .eq (.v 3) (.c (.int 0))]) (.t [.n 3, .n 4]) (.zp [.v 0, .v 1]) [] [3, 4]]])] }
/-- 80: is_good_spread(roll, record, month, reach, thing): slots 0 roll 1 record 2 month 3 reach 4 thing 5 given 6 asked 7 house 8 row 9 stretch 10 number -/
def p_is_good_spread : Df := { np := 5, ns := 11, body := [.par [(true, 5), (true, 6)] [.call 28 [.v 0, .v 2], .call 76 [.v 0, .v 1, .v 2]], .iff (.not (.call 3 [.v 4, .bi .len [.v 5]])) [.ret (.c (.bl false))] [], .for (.t [.n 7, .n 8]) (.enm (.call 77 [.v 0, .v 3])) [.iff (.not (.call 78 [.ix (.v 4) (.v 7), .v 8, .ix (.v 5) (.v 7)])) [.ret (.c (.bl false))] []], .ret (.bi .all [.lc (.cmp .le (.bi .sum [.lc (.ix (.v 8) (.v 9)) (.n 8) (.e (.v 4)) [] [8]]) (.v 10)) (.t [.n 9, .n 10]) (.enm (.v 6)) [] [9, 10]])] }
/-- 81: is_spread(roll, record, month, reach, thing): slots 0 roll 1 record 2 month 3 reach 4 thing -/
def p_is_spread : Df := { np := 5, ns := 5, body := [.ex (.call 79 [.v 0, .v 1, .v 2, .v 3]), .ret (.call 80 [.v 0, .v 1, .v 2, .v 3, .v 4])] }
/-- 100: check_lack(roll, record, month, reach, paper): slots 0 roll 1 record 2 month 3 reach 4 paper 5 brought 6 row -/
def p_check_lack : Df := { np := 5, ns := 7, body := [.ex (.call 79 [.v 0, .v 1, .v 2, .v 3]), .iff (.or [.not (.call 3 [.v 4, .c (.int 2)]), .not (.call 80 [.v 0, .v 1, .v 2, .v 3, .ix (.v 4) (.c (.int 0))])]) [.bad] [], .iff (.not (.call 97 [.v 0, .ix (.v 4) (.c (.int 1))])) [.bad] [], .set true 5 (.bi .sum [.lc (.bi .sum [.v 6]) (.n 6) (.e (.ix (.v 4) (.c (.int 0)))) [] [6]]), .iff (.cmp .ne (.bin .add (.v 5) (.call 98 [.v 0, .v 1, .v 2, .v 3, .ix (.v 4) (.c (.int 1))])) (.bi .sum [.call 76 [.v 0, .v 1, .v 2]])) [.bad] []] }
/-- 101: stretch_of(roll, name): slots 0 roll 1 name -/
def p_stretch_of : Df := { np := 2, ns := 2, body := [.ret (.call 40 [.ix (.v 0) (.c (.int 2)), .v 1, .c (.str [110, 111, 32, 115, 117, 99, 104, 32, 115, 116, 114, 101, 116, 99, 104])])] }
/-- 102: walk(roll, house, stretch): slots 0 roll 1 house 2 stretch 3 own -/
def p_walk : Df := { np := 3, ns := 4, body := [.set true 3 (.call 41 [.call 25 [.v 0], .v 1]), .ret (.call 75 [.v 3, .call 101 [.v 0, .v 2]])] }
/-- 103: walks_of(roll): slots 0 roll 1 stretch 2 house -/
def p_walks_of : Df := { np := 1, ns := 3, body := [.ret (.lc (.lc (.call 75 [.v 2, .v 1]) (.n 1) (.e (.ix (.v 0) (.c (.int 2)))) [] [1]) (.n 2) (.e (.ix (.v 0) (.c (.int 1)))) [] [2])] }
/-- 104: walking_so(roll, spread): slots 0 roll 1 spread 2 number 3 miles 4 row 5 own -/
def p_walking_so : Df := { np := 2, ns := 6, body := [.ret (.bi .sum [.lc (.bi .sum [.lc (.bin .mul (.v 2) (.v 3)) (.t [.n 2, .n 3]) (.zp [.v 4, .v 5]) [] [2, 3]]) (.t [.n 4, .n 5]) (.zp [.v 1, .call 103 [.v 0]]) [] [4, 5]])] }
/-- 105: walking(roll, record, month, reach, spread): slots 0 roll 1 record 2 month 3 reach 4 spread -/
def p_walking : Df := { np := 5, ns := 5, body := [.ex (.call 79 [.v 0, .v 1, .v 2, .v 3]), .iff (.not (.call 80 [.v 0, .v 1, .v 2, .v 3, .v 4])) [.bad] [], .ret (.call 104 [.v 0, .v 4])] }
/-- 114: costs_of(roll): slots 0 roll 1 walks 2 weight 3 found 4 row 5 costs 6 miles 7 own -/
def p_costs_of : Df := { np := 1, ns := 8, body := [.set true 1 (.call 103 [.v 0]), .set false 2 (.c (.int 1)), .set true 3 (.lst []), .for (.n 4) (.e (.sp .rev [.v 1])) [.set true 5 (.lst []), .for (.n 6) (.e (.sp .rev [.v 4])) [.app (.v 5) (.tup [.v 6, .v 2]), .set false 2 (.bin .mul (.v 2) (.g 35))], .app (.v 3) (.sp .rev [.v 5])], .ret (.lc (.lc (.bin .sub (.bin .mul (.v 6) (.v 2)) (.v 7)) (.t [.n 6, .n 7]) (.e (.v 4)) [] [6, 7]) (.n 4) (.e (.sp .rev [.v 3])) [] [4])] }
/-- 107: dealing(roll, record, month, reach): slots 0 roll 1 record 2 month 3 reach -/
def p_dealing : Df := { np := 4, ns := 4, body := [.ex (.call 79 [.v 0, .v 1, .v 2, .v 3]), .ret (.call 106 [.v 0, .v 1, .v 2, .v 3])] }
/-- 108: bounds_on(roll, spread, given, rows): slots 0 roll 1 spread 2 given 3 rows 4 walks 5 many 6 nought 7 found 8 house 9 row 10 stretch 11 near -/
def p_bounds_on : Df := { np := 4, ns := 12, body := [.par [(true, 4), (true, 5)] [.call 103 [.v 0], .bi .len [.v 2]], .set false 6 (.bin .add (.v 5) (.bi .len [.ix (.v 0) (.c (.int 2))])), .set true 7 (.lst []), .for (.t [.n 8, .n 9]) (.enm (.v 3)) [.for (.t [.n 10, .n 11]) (.enm (.v 9)) [.iff (.v 11) [.app (.v 7) (.tup [.bin .add (.v 5) (.v 10), .v 8, .ix (.ix (.v 4) (.v 8)) (.v 10)])] [], .iff (.cmp .gt (.ix (.ix (.v 1) (.v 8)) (.v 10)) (.c (.int 0))) [.app (.v 7) (.tup [.v 8, .bin .add (.v 5) (.v 10), .bin .sub (.c (.int 0)) (.ix (.ix (.v 4) (.v 8)) (.v 10))])] []], .iff (.cmp .lt (.bi .sum [.ix (.v 1) (.v 8)]) (.ix (.v 2) (.v 8))) [.app (.v 7) (.tup [.v 8, .v 6, .c (.int 0)])] [], .iff (.cmp .gt (.bi .sum [.ix (.v 1) (.v 8)]) (.c (.int 0))) [.app (.v 7) (.tup [.v 6, .v 8, .c (.int 0)])] []], .rtv 7] }
/-- 109: numbers_shown(roll, spread, given, rows): slots 0 roll 1 spread 2 given 3 rows 4 many 5 levels 6 bounds 7 is_new 8 one 9 other 10 most 11 own 12 level 13 there 14 stretch 15 row -/
def p_numbers_shown : Df := { np := 4, ns := 16, body := [.set false 4 (.bi .len [.v 2]), .set true 5 (.bin .mul (.lst [.c (.int 0)]) (.bin .add (.bin .add (.v 4) (.bi .len [.ix (.v 0) (.c (.int 2))])) (.c (.int 1)))), .set true 6 (.call 108 [.v 0, .v 1, .v 2, .v 3]), .set true 7 (.c (.bl true)), .whl (.v 7) [.set true 7 (.c (.bl false)), .for (.t [.n 8, .n 9, .n 10]) (.e (.v 6)) [.iff (.cmp .gt (.ix (.v 5) (.v 8)) (.bin .add (.ix (.v 5) (.v 9)) (.v 10))) [.put (.v 5) (.v 8) (.bin .add (.ix (.v 5) (.v 9)) (.v 10)), .set true 7 (.c (.bl true))] []]], .set false 11 (.bi .tuple [.lc (.bi .max [.c (.int 0), .bin .sub (.v 12) (.ix (.v 5) (.neg (.c (.int 1))))]) (.n 12) (.e (.sl (.v 5) none (some (.v 4)))) [] [12]]), .set true 13 (.lst []), .for (.t [.n 14, .n 12]) (.enm (.sl (.v 5) (some (.v 4)) (some (.neg (.c (.int 1)))))) [.app (.v 13) (.ite (.bi .any [.lc (.cmp .gt (.ix (.v 15) (.v 14)) (.c (.int 0))) (.n 15) (.e (.v 1)) [] [15]]) (.bin .sub (.v 12) (.ix (.v 5) (.neg (.c (.int 1))))) (.c (.int 0)))], .ret (.tup [.v 11, .bi .tuple [.v 13]])] }
/-- 110: walk_paper(roll, record, month, reach): slots 0 roll 1 record 2 month 3 reach 4 spread 5 own 6 there -/
def p_walk_paper : Df := { np := 4, ns := 7, body := [.ex (.call 79 [.v 0, .v 1, .v 2, .v 3]), .set false 4 (.call 106 [.v 0, .v 1, .v 2, .v 3]), .unp (.t [.n 5, .n 6]) (.call 109 [.v 0, .v 4, .call 28 [.v 0, .v 2], .call 77 [.v 0, .v 3]]), .ret (.tup [.v 4, .v 5, .v 6])] }
/-- 111: are_shown(thing, many): slots 0 thing 1 many 2 number -/
def p_are_shown : Df := { np := 2, ns := 3, body := [.ret (.and [.call 3 [.v 0, .v 1], .bi .all [.lc (.call 0 [.v 2, .c (.int 0), .g 36]) (.n 2) (.e (.v 0)) [] [2]]])] }
/-- 112: need_walk_form(roll, record, month, reach, paper): slots 0 roll 1 record 2 month 3 reach 4 paper -/
def p_need_walk_form : Df := { np := 5, ns := 5, body := [.iff (.or [.not (.call 3 [.v 4, .c (.int 3)]), .not (.call 80 [.v 0, .v 1, .v 2, .v 3, .ix (.v 4) (.c (.int 0))])]) [.bad] [], .iff (.or [.not (.call 111 [.ix (.v 4) (.c (.int 1)), .bi .len [.ix (.v 0) (.c (.int 1))]]), .not (.call 111 [.ix (.v 4) (.c (.int 2)), .bi .len [.ix (.v 0) (.c (.int 2))]])]) [.bad] []] }
/-- 113: check_walk(roll, record, month, reach, paper): slots 0 roll 1 record 2 month 3 reach 4 paper 5 spread 6 own 7 there 8 got 9 row 10 stretch 11 walks 12 house 13 near 14 gained 15 number 16 days 17 lost -/
def p_check_walk : Df := { np := 5, ns := 18, body := [.ex (.call 79 [.v 0, .v 1, .v 2, .v 3]), .ex (.call 112 [.v 0, .v 1, .v 2, .v 3, .v 4]), .unp (.t [.n 5, .n 6, .n 7]) (.v 4), .set true 8 (.call 94 [.v 0, .v 1, .v 2, .v 3]), .iff (.cmp .ne (.lc (.bi .sum [.lc (.ix (.v 9) (.v 10)) (.n 9) (.e (.v 5)) [] [9]]) (.n 10) (.rng [.bi .len [.v 8]]) [] [10]) (.v 8)) [.bad] [], .set true 11 (.call 103 [.v 0]), .for (.t [.n 12, .n 9]) (.enm (.call 77 [.v 0, .v 3])) [.for (.t [.n 10, .n 13]) (.enm (.v 9)) [.iff (.and [.v 13, .cmp .gt (.ix (.v 7) (.v 10)) (.bin .add (.ix (.v 6) (.v 12)) (.ix (.ix (.v 11) (.v 12)) (.v 10)))]) [.bad] []]], .set true 14 (.bi .sum [.lc (.bin .mul (.v 15) (.v 16)) (.t [.n 15, .n 16]) (.zp [.v 7, .v 8]) [] [15, 16]]), .set true 17 (.bi .sum [.lc (.bin .mul (.v 15) (.v 16)) (.t [.n 15, .n 16]) (.zp [.v 6, .call 28 [.v 0, .v 2]]) [] [15, 16]]), .iff (.cmp .ne (.bin .sub (.v 14) (.v 17)) (.call 104 [.v 0, .v 5])) [.bad] []] }
/-- 4: has_entry_form(thing): slots 0 thing -/
def p_has_entry_form : Df := { np := 1, ns := 1, body := [.iff (.or [.not (.call 3 [.v 0, .c (.int 5)]), .not (.call 2 [.ix (.v 0) (.c (.int 0))]), .not (.call 1 [.ix (.v 0) (.c (.int 1))]), .not (.call 1 [.ix (.v 0) (.c (.int 2))])]) [.ret (.c (.bl false))] [], .ret (.and [.isi (.ix (.v 0) (.c (.int 3))) [.str], .cmp .inn (.ix (.v 0) (.c (.int 3))) (.g 5), .call 0 [.ix (.v 0) (.c (.int 4)), .c (.int 1), .g 4]])] }
/-- 5: has_payment_form(thing): slots 0 thing -/
def p_has_payment_form : Df := { np := 1, ns := 1, body := [.iff (.or [.not (.call 3 [.v 0, .c (.int 3)]), .not (.call 2 [.ix (.v 0) (.c (.int 0))]), .not (.call 1 [.ix (.v 0) (.c (.int 1))])]) [.ret (.c (.bl false))] [], .ret (.call 0 [.ix (.v 0) (.c (.int 2)), .c (.int 1), .g 6])] }
/-- 7: has_part_form(sort, thing): slots 0 sort 1 thing -/
def p_has_part_form : Df := { np := 2, ns := 2, body := [.iff (.cmp .eq (.v 0) (.c (.str [110]))) [.ret (.call 1 [.v 1])] [], .iff (.cmp .eq (.v 0) (.c (.str [101]))) [.ret (.call 4 [.v 1])] [], .iff (.cmp .eq (.v 0) (.c (.str [107]))) [.ret (.call 0 [.v 1, .c (.int 0), .bin .sub (.g 7) (.c (.int 1))])] [], .iff (.cmp .eq (.v 0) (.c (.str [100]))) [.ret (.call 2 [.v 1])] [], .ret (.ite (.cmp .eq (.v 0) (.c (.str [112]))) (.call 5 [.v 1]) (.call 6 [.v 1]))] }
/-- 8: is_deed(thing): slots 0 thing 1 form 2 sort 3 part -/
def p_is_deed : Df := { np := 1, ns := 4, body := [.iff (.or [.not (.isi (.v 0) [.tup]), .cmp .eq (.v 0) (.tup []), .not (.isi (.ix (.v 0) (.c (.int 0))) [.str]), .gin true (.ix (.v 0) (.c (.int 0))) 8]) [.ret (.c (.bl false))] [], .set true 1 (.gix 8 (.ix (.v 0) (.c (.int 0)))), .ret (.and [.cmp .eq (.bi .len [.v 0]) (.bin .add (.c (.int 1)) (.bi .len [.v 1])), .bi .all [.lc (.call 7 [.v 2, .v 3]) (.t [.n 2, .n 3]) (.zp [.v 1, .sl (.v 0) (some (.c (.int 1))) none]) [] [2, 3]]])] }
def kdfs : List (Nat × Df) := [(0, p_is_among), (2, p_is_day), (16, p_is_year), (9, p_is_month), (1, p_is_name), (42, p_need_day), (44, p_need_year), (82, p_year_of), (83, p_month_of), (84, p_days_in), (3, p_is_tuple_of), (10, p_is_rising), (11, p_is_table), (6, p_is_land), (12, p_is_due), (13, p_is_steps), (14, p_is_team), (18, p_is_field), (15, p_is_lands), (21, p_is_house), (17, p_is_wants), (22, p_is_stretch), (20, p_first_bad), (19, p_need_act), (25, p_need_roll), (26, p_need_month), (40, p_called_so), (41, p_house_of), (23, p_last_of), (43, p_team_on), (24, p_due_in), (45, p_due_in_year), (46, p_land_on), (47, p_keeps_team), (48, p_owed_in), (49, p_owed), (50, p_all_owed), (30, p_joined), (39, p_roll_text), (31, p_number_in), (32, p_numbers_in), (33, p_table_in), (34, p_field_in), (36, p_house_in), (37, p_stretch_in), (35, p_put_in_list), (38, p_read_roll), (51, p_is_one_of), (53, p_need_books), (52, p_is_entry), (54, p_need_entries), (55, p_need_rain), (56, p_is_payment), (58, p_need_record), (57, p_word_of), (59, p_stood), (60, p_standing), (61, p_counted_in), (62, p_counted), (85, p_clashes), (86, p_days_on), (69, p_rows_counted), (63, p_in_year), (67, p_days_paid), (64, p_parted), (65, p_in_all), (66, p_settled), (68, p_settled_in), (70, p_asked_of), (72, p_account), (71, p_accounts), (73, p_money_in), (87, p_together), (88, p_shares), (89, p_over), (90, p_by_stretch), (28, p_days_given), (27, p_by_names), (29, p_gives), (76, p_days_asked), (91, p_asks), (92, p__wall), (74, p_need_reach), (79, p_need_asked), (75, p_miles_apart), (77, p_nearness), (95, p_gets), (96, p_lacks), (97, p_is_stretch_set), (98, p_short_so), (99, p_short_by), (78, p_is_spread_row), (80, p_is_good_spread), (81, p_is_spread), (100, p_check_lack), (101, p_stretch_of), (102, p_walk), (103, p_walks_of), (104, p_walking_so), (105, p_walking), (114, p_costs_of), (107, p_dealing), (108, p_bounds_on), (109, p_numbers_shown), (110, p_walk_paper), (111, p_are_shown), (112, p_need_walk_form), (113, p_check_walk), (4, p_has_entry_form), (5, p_has_payment_form), (7, p_has_part_form), (8, p_is_deed)]
def kgls : List (Nat × T) := [(2, .str [97, 98, 99, 100, 101, 102, 103, 104, 105, 106, 107, 108, 109, 110, 111, 112, 113, 114, 115, 116, 117, 118, 119, 120, 121, 122]), (1, .int 8), (0, .int 240), (11, .int 24), (12, .int 6), (3, .int 999), (13, .int 9), (15, .int 6), (18, .int 99), (19, .int 40), (17, .int 9), (22, .int 9), (21, .int 99), (14, .int 6), (20, .int 8), (23, .int 10), (24, .int 99), (26, .int 8), (25, .int 6), (16, .int 7), (28, .str [48, 49, 50, 51, 52, 53, 54, 55, 56, 57]), (29, .int 3), (27, .tup [.str [115, 116, 101, 112, 115], .str [116, 101, 97, 109], .str [112, 114, 105, 99, 101], .str [102, 105, 110, 101], .str [112, 97, 105, 100], .str [99, 97, 114, 114, 105, 101, 100], .str [108, 111, 97, 100, 115]]), (31, .int 4), (7, .int 30), (30, .int 20), (4, .int 9), (6, .int 40), (9, .str [104, 97, 110, 100, 115]), (10, .str [116, 101, 97, 109]), (5, .tup [.str [104, 97, 110, 100, 115], .str [115, 101, 110, 116], .str [116, 101, 97, 109]]), (33, .str [99, 111, 117, 110, 116, 115]), (32, .str [116, 119, 105, 99, 101]), (34, .tup [.int (-1), .int (-1)]), (35, .int 100), (36, .int 9999)]
def kdf (i : Nat) : Option Df := kdfs.lookup i
def kgl (i : Nat) : Option T := kgls.lookup i
/-- a text holds the program's defs and constants of these numbers -/
structure Has (P : Pg) (fs gs : List Nat) : Prop where
  f : ∀ i ∈ fs, P.df i = kdf i
  g : ∀ i ∈ gs, P.gl i = kgl i
end Kp
set_option Elab.async false
set_option linter.all false
set_option autoImplicit false
set_option maxRecDepth 100000
/-! The program's looks at data: dates, names, tables, rolls. -/
namespace Rm
open Kp
/-! ### values that are whole in a heap -/
def okT (h : LH) : T → Bool
  | .fn _ => false
  | .ref n => (h[n]?).isSome
  | _ => true
mutual
def okV (h : LH) : T → Bool
  | .fn _ => false
  | .ref n => (h[n]?).isSome
  | .tup xs => okVs h xs
  | _ => true
def okVs (h : LH) : List T → Bool
  | [] => true
  | x :: xs => okV h x && okVs h xs
end
theorem okV_T {h : LH} {t : T} (e : okV h t = true) : okT h t = true := by
  cases t <;> first | rfl | exact e
theorem okVs_mem {h : LH} : ∀ {xs : List T} {x : T}, okVs h xs = true → x ∈ xs → okV h x = true
  | [], x, _, e => by cases e
  | y :: ys, x, o, e => by
    simp only [okVs, Bool.and_eq_true] at o
    rcases List.mem_cons.mp e with e | e
    · rw [e]; exact o.1
    · exact okVs_mem o.2 e
theorem okVs_all {h : LH} : ∀ {ts : List T}, (∀ t ∈ ts, okV h t = true) → okVs h ts = true
  | [], _ => rfl
  | t :: ts, e => by
    simp only [okVs, Bool.and_eq_true]
    exact ⟨e t (List.mem_cons_self ..), okVs_all fun u hu => e u (List.mem_cons_of_mem _ hu)⟩
theorem isi_ok (ty : Ty) (t : T) (h : LH) (ht : okT h t = true) : ∃ b, isiD (.s t) [ty] h = some b := by
  cases t with
  | ref m =>
    cases q : h[m]? with
    | none => simp [okT, q] at ht
    | some o => cases o <;> exact ⟨_, by simp [isiD, tyD, q]; rfl⟩
  | fn f => cases ht
  | _ => exact ⟨_, rfl⟩
def isTupB : T → Bool
  | .tup _ => true
  | _ => false
def isStrB : T → Bool
  | .str _ => true
  | _ => false
theorem isi_tup (t : T) (h : LH) (ht : okT h t = true) : isiD (.s t) [.tup] h = some (isTupB t) := by
  cases t with
  | ref m =>
    cases q : h[m]? with
    | none => simp [okT, q] at ht
    | some o => cases o <;> simp [isiD, tyD, tyIn, q, isTupB]
  | fn f => cases ht
  | _ => simp [isiD, tyD, tyIn, isTupB]
theorem isi_str (t : T) (h : LH) (ht : okT h t = true) : isiD (.s t) [.str] h = some (isStrB t) := by
  cases t with
  | ref m =>
    cases q : h[m]? with
    | none => simp [okT, q] at ht
    | some o => cases o <;> simp [isiD, tyD, tyIn, q, isStrB]
  | fn f => cases ht
  | _ => simp [isiD, tyD, tyIn, isStrB]
theorem isi_int (t : T) (h : LH) (ht : okT h t = true) : isiD (.s t) [.int] h = some (match t with | .int _ => true | .bl _ => true | _ => false) := by
  cases t with
  | ref m =>
    cases q : h[m]? with
    | none => simp [okT, q] at ht
    | some o => cases o <;> simp [isiD, tyD, tyIn, q]
  | fn f => cases ht
  | _ => simp [isiD, tyD, tyIn]
theorem isi_bool (t : T) (h : LH) (ht : okT h t = true) : isiD (.s t) [.bool] h = some (match t with | .bl _ => true | _ => false) := by
  cases t with
  | ref m =>
    cases q : h[m]? with
    | none => simp [okT, q] at ht
    | some o => cases o <;> simp [isiD, tyD, tyIn, q]
  | fn f => cases ht
  | _ => simp [isiD, tyD, tyIn]
/-! ### numbers, names -/
def amT (t : T) (lo hi : Int) : Bool := match t with
  | .int i => decide (lo ≤ i) && decide (i ≤ hi)
  | _ => false
theorem am_inv {t : T} {lo hi : Int} (h : amT t lo hi = true) : ∃ i, t = .int i ∧ lo ≤ i ∧ i ≤ hi := by
  cases t <;> simp [amT] at h
  exact ⟨_, rfl, h⟩
theorem am_int {v lo hi : Int} (a : lo ≤ v) (b : v ≤ hi) : amT (.int v) lo hi = true := by
  simp [amT, a, b]
abbrev LET : List Nat := [97, 98, 99, 100, 101, 102, 103, 104, 105, 106, 107, 108, 109, 110, 111, 112, 113, 114, 115, 116, 117, 118, 119, 120, 121, 122]
def lowB (c : Nat) : Bool := decide (c ∈ LET)
def nmT : T → Bool
  | .str s => decide (1 ≤ s.length) && decide (s.length ≤ 8) && s.all lowB
  | _ => false
theorem low_in (c : Nat) (h : LH) : inD (.s (.str [c])) (.s (.str LET)) h = some (lowB c) := by
  have := PySem.StrLaws.found_one ⟨LET.toArray⟩ c
  simp only [inD]
  exact congrArg some this
theorem bls_map {α : Type} (f : α → Bool) : ∀ xs : List α, blsOf (xs.map fun x => T.bl (f x)) = some (xs.map f)
  | [] => rfl
  | x :: xs => by simp [blsOf, bls_map f xs]
theorem bi_all (xs : List T) (f : T → Bool) (h : LH) : biD .all [.tl (xs.map fun x => T.bl (f x))] h = some (.s (.bl (xs.all f))) := by
  show biAll h (.tl (xs.map fun x => T.bl (f x))) = _
  simp only [biAll, lstOf, bls_map, Option.map_some]
  congr 3
  rw [List.all_map]; rfl
theorem bk_bb (b c : Bool) (h : LH) : bk b (R.ok (D.s (.bl c)) h) (.ok (.s (.bl false)) h) fx fx = .ok (.s (.bl (b && c))) h := by cases b <;> rfl
def tuB (t : T) (k : Int) : Bool := match t with
  | .tup xs => decide ((xs.length : Int) = k)
  | _ => false
section
variable {P : Pg} {n : Nat} {h : LH}
theorem among_ok (e : P.df 0 = some p_is_among) (t : T) (lo hi : Int) (ht : okT h t = true) : callF P (n + 1) 0 [.s t, .s (.int lo), .s (.int hi)] h = .ok (.s (.bl (amT t lo hi))) h := by
  rw [call_eq e rfl, p_is_among]
  have i1 := isi_int t h ht
  have i2 := isi_bool t h ht
  cases t with
  | int i =>
    by_cases a : lo ≤ i
    · simp only [↓evd, evu, evl, Nat.reduceAdd, Nat.reduceSub, Nat.reduceLeDiff, Nat.reduceEqDiff, Nat.zero_le, Nat.le_refl, Nat.zero_add, Nat.add_zero, Int.reduceEq, Int.reduceLE, Int.reduceLT, Int.reduceAdd, Int.reduceSub, Int.reduceMul, Int.reduceNeg, Int.cast_ofNat_Int, Int.natCast_add, Int.natCast_zero, Int.natCast_one, i1, i2, a, amT]
    · simp only [↓evd, evu, evl, Nat.reduceAdd, Nat.reduceSub, Nat.reduceLeDiff, Nat.reduceEqDiff, Nat.zero_le, Nat.le_refl, Nat.zero_add, Nat.add_zero, Int.reduceEq, Int.reduceLE, Int.reduceLT, Int.reduceAdd, Int.reduceSub, Int.reduceMul, Int.reduceNeg, Int.cast_ofNat_Int, Int.natCast_add, Int.natCast_zero, Int.natCast_one, i1, i2, a, amT]
  | bl b => simp only [↓evd, evu, evl, Nat.reduceAdd, Nat.reduceSub, Nat.reduceLeDiff, Nat.reduceEqDiff, Nat.zero_le, Nat.le_refl, Nat.zero_add, Nat.add_zero, Int.reduceEq, Int.reduceLE, Int.reduceLT, Int.reduceAdd, Int.reduceSub, Int.reduceMul, Int.reduceNeg, Int.cast_ofNat_Int, Int.natCast_add, Int.natCast_zero, Int.natCast_one, i1, i2, amT]
  | _ => simp only [↓evd, evu, evl, Nat.reduceAdd, Nat.reduceSub, Nat.reduceLeDiff, Nat.reduceEqDiff, Nat.zero_le, Nat.le_refl, Nat.zero_add, Nat.add_zero, Int.reduceEq, Int.reduceLE, Int.reduceLT, Int.reduceAdd, Int.reduceSub, Int.reduceMul, Int.reduceNeg, Int.cast_ofNat_Int, Int.natCast_add, Int.natCast_zero, Int.natCast_one, i1, i2, amT]
theorem tupof_ok (e : P.df 3 = some p_is_tuple_of) (t : T) (k : Int) (ht : okT h t = true) : callF P (n + 1) 3 [.s t, .s (.int k)] h = .ok (.s (.bl (tuB t k))) h := by
  rw [call_eq e rfl, p_is_tuple_of]
  have i1 := isi_tup t h ht
  cases t <;> simp only [↓evd, evu, evl, Nat.reduceAdd, Nat.reduceSub, Nat.reduceLeDiff, Nat.reduceEqDiff, Nat.zero_le, Nat.le_refl, Nat.zero_add, Nat.add_zero, Int.reduceEq, Int.reduceLE, Int.reduceLT, Int.reduceAdd, Int.reduceSub, Int.reduceMul, Int.reduceNeg, Int.cast_ofNat_Int, Int.natCast_add, Int.natCast_zero, Int.natCast_one, i1, isTupB, tuB]
end
end Rm
set_option Elab.async false
set_option linter.all false
set_option autoImplicit false
set_option maxRecDepth 100000
namespace Rm
open Kp
/-- the defs that need_roll reaches, and their constants -/
def rollF : List Nat := [0, 2, 16, 1, 3, 10, 11, 6, 12, 13, 14, 18, 15, 21, 17, 22, 20, 19, 25]
def rollG : List Nat := [2, 1, 0, 11, 3, 13, 15, 18, 19, 17, 22, 21, 14, 20, 23, 24, 26, 25, 16]
abbrev HasRoll (P : Pg) : Prop := Has P rollF rollG
section
variable {P : Pg} {n : Nat} {h : LH}
theorem _root_.Kp.Has.df {fs gs : List Nat} (H : Has P fs gs) (i : Nat) {d : Df} (m : i ∈ fs) (e : kdf i = some d) : P.df i = some d := (H.f i m).trans e
theorem _root_.Kp.Has.gl {fs gs : List Nat} (H : Has P fs gs) (i : Nat) {t : T} (m : i ∈ gs) (e : kgl i = some t) : P.gl i = some t := (H.g i m).trans e
theorem dv24 : divOk 24 = true := rfl
theorem day_ok (H : HasRoll P) (t : T) (ht : okT h t = true) : callF P (n + 2) 2 [.s t] h = .ok (.s (.bl (amT t 0 239))) h := by
  rw [call_eq (H.df 2 (by decide) rfl) rfl, p_is_day]
  simp only [↓evd, evu, evl, Nat.reduceAdd, Nat.reduceSub, Nat.reduceLeDiff, Nat.reduceEqDiff, Nat.zero_le, Nat.le_refl, Nat.zero_add, Nat.add_zero, Int.reduceEq, Int.reduceLE, Int.reduceLT, Int.reduceAdd, Int.reduceSub, Int.reduceMul, Int.reduceNeg, Int.cast_ofNat_Int, Int.natCast_add, Int.natCast_zero, Int.natCast_one, H.gl 0 (by decide) rfl, among_ok (n := n) (H.df 0 (by decide) rfl) t 0 239 ht]
theorem year_ok (H : HasRoll P) (t : T) (ht : okT h t = true) : callF P (n + 2) 16 [.s t] h = .ok (.s (.bl (amT t 0 9))) h := by
  rw [call_eq (H.df 16 (by decide) rfl) rfl, p_is_year]
  simp only [↓evd, evu, evl, Nat.reduceAdd, Nat.reduceSub, Nat.reduceLeDiff, Nat.reduceEqDiff, Nat.zero_le, Nat.le_refl, Nat.zero_add, Nat.add_zero, Int.reduceEq, Int.reduceLE, Int.reduceLT, Int.reduceAdd, Int.reduceSub, Int.reduceMul, Int.reduceNeg, Int.cast_ofNat_Int, Int.natCast_add, Int.natCast_zero, Int.natCast_one, H.gl 0 (by decide) rfl, H.gl 11 (by decide) rfl, dv24, if_true, Int.reduceDiv, among_ok (n := n) (H.df 0 (by decide) rfl) t 0 9 ht]
theorem land_ok (H : HasRoll P) (t : T) (ht : okT h t = true) : callF P (n + 2) 6 [.s t] h = .ok (.s (.bl (amT t 0 999))) h := by
  rw [call_eq (H.df 6 (by decide) rfl) rfl, p_is_land]
  simp only [↓evd, evu, evl, Nat.reduceAdd, Nat.reduceSub, Nat.reduceLeDiff, Nat.reduceEqDiff, Nat.zero_le, Nat.le_refl, Nat.zero_add, Nat.add_zero, Int.reduceEq, Int.reduceLE, Int.reduceLT, Int.reduceAdd, Int.reduceSub, Int.reduceMul, Int.reduceNeg, Int.cast_ofNat_Int, Int.natCast_add, Int.natCast_zero, Int.natCast_one, H.gl 3 (by decide) rfl, among_ok (n := n) (H.df 0 (by decide) rfl) t 0 999 ht]
theorem due_ok (H : HasRoll P) (t : T) (ht : okT h t = true) : callF P (n + 2) 12 [.s t] h = .ok (.s (.bl (amT t 0 9))) h := by
  rw [call_eq (H.df 12 (by decide) rfl) rfl, p_is_due]
  simp only [↓evd, evu, evl, Nat.reduceAdd, Nat.reduceSub, Nat.reduceLeDiff, Nat.reduceEqDiff, Nat.zero_le, Nat.le_refl, Nat.zero_add, Nat.add_zero, Int.reduceEq, Int.reduceLE, Int.reduceLT, Int.reduceAdd, Int.reduceSub, Int.reduceMul, Int.reduceNeg, Int.cast_ofNat_Int, Int.natCast_add, Int.natCast_zero, Int.natCast_one, H.gl 13 (by decide) rfl, among_ok (n := n) (H.df 0 (by decide) rfl) t 0 9 ht]
theorem name_ok (H : HasRoll P) (t : T) (ht : okT h t = true) : callF P (n + 1) 1 [.s t] h = .ok (.s (.bl (nmT t))) h := by
  rw [call_eq (H.df 1 (by decide) rfl) rfl, p_is_name]
  have i1 := isi_str t h ht
  have g1 := H.gl 1 (by decide) (t := .int 8) rfl
  have g2 := H.gl 2 (by decide) (t := .str LET) rfl
  cases t with
  | str s =>
    simp only [↓evd, evu, evl, Nat.reduceAdd, Nat.reduceSub, Nat.reduceLeDiff, Nat.reduceEqDiff, Nat.zero_le, Nat.le_refl, Nat.zero_add, Nat.add_zero, Int.reduceEq, Int.reduceLE, Int.reduceLT, Int.reduceAdd, Int.reduceSub, Int.reduceMul, Int.reduceNeg, Int.cast_ofNat_Int, Int.natCast_add, Int.natCast_zero, Int.natCast_one, i1, isStrB, g1, g2]
    by_cases h1 : 1 ≤ s.length
    · by_cases h2 : s.length ≤ 8
      · have k1 : ((1 : Int) ≤ s.length) := by omega
        have k2 : ((s.length : Int) ≤ 8) := by omega
        simp only [↓evd, evu, evl, Nat.reduceAdd, Nat.reduceSub, Nat.reduceLeDiff, Nat.reduceEqDiff, Nat.zero_le, Nat.le_refl, Nat.zero_add, Nat.add_zero, Int.reduceEq, Int.reduceLE, Int.reduceLT, Int.reduceAdd, Int.reduceSub, Int.reduceMul, Int.reduceNeg, Int.cast_ofNat_Int, Int.natCast_add, Int.natCast_zero, Int.natCast_one, k1, k2, g1, lcK]
        rw [lc_map (g := fun t => .bl (match t with | .str [c] => lowB c | _ => false)) rfl]
        · simp only [↓evd, evu, evl, Nat.reduceAdd, Nat.reduceSub, Nat.reduceLeDiff, Nat.reduceEqDiff, Nat.zero_le, Nat.le_refl, Nat.zero_add, Nat.add_zero, Int.reduceEq, Int.reduceLE, Int.reduceLT, Int.reduceAdd, Int.reduceSub, Int.reduceMul, Int.reduceNeg, Int.cast_ofNat_Int, Int.natCast_add, Int.natCast_zero, Int.natCast_one, List.nil_append, bi_all]
          simp only [nmT, h1, h2]
          congr 3
          rw [List.all_map]
          simp [Function.comp_def]
        · intro x hx
          obtain ⟨c, hc, rfl⟩ := List.mem_map.mp hx
          rw [lcB_k rfl]
          simp only [↓evd, evu, evl, Nat.reduceAdd, Nat.reduceSub, Nat.reduceLeDiff, Nat.reduceEqDiff, Nat.zero_le, Nat.le_refl, Nat.zero_add, Nat.add_zero, Int.reduceEq, Int.reduceLE, Int.reduceLT, Int.reduceAdd, Int.reduceSub, Int.reduceMul, Int.reduceNeg, Int.cast_ofNat_Int, Int.natCast_add, Int.natCast_zero, Int.natCast_one, g2, low_in]
      · have k1 : ((1 : Int) ≤ s.length) := by omega
        have k2 : ¬ ((s.length : Int) ≤ 8) := by omega
        simp only [↓evd, evu, evl, Nat.reduceAdd, Nat.reduceSub, Nat.reduceLeDiff, Nat.reduceEqDiff, Nat.zero_le, Nat.le_refl, Nat.zero_add, Nat.add_zero, Int.reduceEq, Int.reduceLE, Int.reduceLT, Int.reduceAdd, Int.reduceSub, Int.reduceMul, Int.reduceNeg, Int.cast_ofNat_Int, Int.natCast_add, Int.natCast_zero, Int.natCast_one, k1, k2, g1, nmT, h2]; simp
    · have k1 : ¬ ((1 : Int) ≤ s.length) := by omega
      simp only [↓evd, evu, evl, Nat.reduceAdd, Nat.reduceSub, Nat.reduceLeDiff, Nat.reduceEqDiff, Nat.zero_le, Nat.le_refl, Nat.zero_add, Nat.add_zero, Int.reduceEq, Int.reduceLE, Int.reduceLT, Int.reduceAdd, Int.reduceSub, Int.reduceMul, Int.reduceNeg, Int.cast_ofNat_Int, Int.natCast_add, Int.natCast_zero, Int.natCast_one, k1, nmT, h1]
  | _ => simp only [↓evd, evu, evl, Nat.reduceAdd, Nat.reduceSub, Nat.reduceLeDiff, Nat.reduceEqDiff, Nat.zero_le, Nat.le_refl, Nat.zero_add, Nat.add_zero, Int.reduceEq, Int.reduceLE, Int.reduceLT, Int.reduceAdd, Int.reduceSub, Int.reduceMul, Int.reduceNeg, Int.cast_ofNat_Int, Int.natCast_add, Int.natCast_zero, Int.natCast_one, i1, isStrB, nmT]
end
end Rm
set_option Elab.async false
set_option linter.all false
set_option autoImplicit false
set_option maxRecDepth 100000
namespace Rm
open Kp
/-- numbers that rise -/
def risB : List T → Bool
  | .int a :: .int b :: r => decide (a < b) && risB (.int b :: r)
  | _ => true
theorem zipMem : ∀ (xs ys : List T) (t : T), t ∈ zip2 xs ys → ∃ u v, t = .tup [u, v] ∧ u ∈ xs ∧ v ∈ ys
  | [], ys, t, h => by simp [zip2] at h
  | x :: xs, [], t, h => by simp [zip2] at h
  | x :: xs, y :: ys, t, h => by
    simp only [zip2, List.mem_cons] at h
    rcases h with h | h
    · exact ⟨x, y, h, List.mem_cons_self .., List.mem_cons_self ..⟩
    · obtain ⟨u, v, e, a, b⟩ := zipMem xs ys t h
      exact ⟨u, v, e, List.mem_cons_of_mem _ a, List.mem_cons_of_mem _ b⟩
def ltP : T → Bool
  | .tup [.int a, .int b] => decide (a < b)
  | _ => false
theorem ris_zip : ∀ is : List Int, (zip2 (is.map T.int) ((is.map T.int).drop 1)).all ltP = risB (is.map T.int)
  | [] => rfl
  | [a] => rfl
  | a :: b :: r => by
    have := ris_zip (b :: r)
    simp only [List.map_cons, List.drop_succ_cons, List.drop_zero] at this
    simp only [List.map_cons, List.drop_succ_cons, List.drop_zero, zip2, List.all_cons, this, risB, ltP]
theorem cut_1 {α : Type} (xs : List α) : cutT xs (some 1) none = xs.drop 1 := by
  have e : HT.sIx xs.length 0 (some 1) = min 1 xs.length := rfl
  simp only [cutT, e, HT.sIx]
  cases xs with
  | nil => rfl
  | cons x xs => simp
theorem sl_vw (xs : List T) (lo hi : Option Int) (h : LH) : slD (.vw xs) lo hi h = some (.tl (cutT xs lo hi)) := rfl
theorem zip_vt (i : Nat) (p : Ex) (a b : List T) (h : LH) : zipD [.v i, p] [.vw a, .tl b] h = some (zip2 a b, []) := by
  simp only [zipD, itX, itOf]; rfl
section
variable {P : Pg} {n : Nat} {h : LH}
theorem rising_ok (H : HasRoll P) (is : List Int) : callF P (n + 1) 10 [.vw (is.map T.int)] h = .ok (.s (.bl (risB (is.map T.int)))) h := by
  rw [call_eq (H.df 10 (by decide) rfl) rfl, p_is_rising]
  simp only [↓evd, evu, evl, Nat.reduceAdd, Nat.reduceSub, Nat.reduceLeDiff, Nat.reduceEqDiff, Nat.zero_le, Nat.le_refl, Nat.zero_add, Nat.add_zero, Int.reduceEq, Int.reduceLE, Int.reduceLT, Int.reduceAdd, Int.reduceSub, Int.reduceMul, Int.reduceNeg, Int.cast_ofNat_Int, Int.natCast_add, Int.natCast_zero, Int.natCast_one, sl_vw, cut_1, zip_vt, lcK]
  rw [lc_map (g := fun t => .bl (ltP t)) rfl]
  · simp only [↓evd, evu, evl, Nat.reduceAdd, Nat.reduceSub, Nat.reduceLeDiff, Nat.reduceEqDiff, Nat.zero_le, Nat.le_refl, Nat.zero_add, Nat.add_zero, Int.reduceEq, Int.reduceLE, Int.reduceLT, Int.reduceAdd, Int.reduceSub, Int.reduceMul, Int.reduceNeg, Int.cast_ofNat_Int, Int.natCast_add, Int.natCast_zero, Int.natCast_one, List.nil_append, bi_all, ris_zip]
  · intro x hx
    obtain ⟨u, v, rfl, a, b⟩ := zipMem _ _ _ hx
    obtain ⟨i, _, rfl⟩ := List.mem_map.mp a
    obtain ⟨j, _, rfl⟩ := List.mem_map.mp (List.mem_of_mem_drop b)
    rw [lcB_k (by simp only [b_t, bs_1, bs_0]; rfl)]
    simp only [↓evd, evu, evl, Nat.reduceAdd, Nat.reduceSub, Nat.reduceLeDiff, Nat.reduceEqDiff, Nat.zero_le, Nat.le_refl, Nat.zero_add, Nat.add_zero, Int.reduceEq, Int.reduceLE, Int.reduceLT, Int.reduceAdd, Int.reduceSub, Int.reduceMul, Int.reduceNeg, Int.cast_ofNat_Int, Int.natCast_add, Int.natCast_zero, Int.natCast_one, ltP]
/-- a pair of a table -/
def prB (p q : T → Bool) : T → Bool
  | .tup [a, b] => p a && q b
  | _ => false
def fstT : T → T
  | .tup (a :: _) => a
  | t => t
/-- a table: pairs, the first ones rising from 0 -/
def tabB (p q : T → Bool) (lo hi : Int) : T → Bool
  | .tup xs => decide (lo ≤ (xs.length : Int)) && decide ((xs.length : Int) ≤ hi) && xs.all (prB p q) && risB (xs.map fstT) && (match xs with | x :: _ => decide (fstT x = .int 0) | [] => false)
  | _ => false
theorem fn_s (f : Nat) (h : LH) : fnOf (some (some (.s (.fn f)))) h = .ok f h := rfl
theorem pair_ok (H : HasRoll P) {f g : Nat} {p q : T → Bool} (hf : ∀ x, okT h x = true → callF P (n + 2) f [.s x] h = .ok (.s (.bl (p x))) h) (hg : ∀ x, okT h x = true → callF P (n + 2) g [.s x] h = .ok (.s (.bl (q x))) h) (t : T) (ht : okV h t = true) (s : Sg) (e5 : s[5]? = some (some (.s t))) (e3 : s[3]? = some (some (.s (.fn f)))) (e4 : s[4]? = some (some (.s (.fn g)))) :
    evE P (callF P (n + 2)) (.and [.call 3 [.v 5, .c (.int 2)], .calv 3 [.ix (.v 5) (.c (.int 0))], .calv 4 [.ix (.v 5) (.c (.int 1))]]) s h = .ok (.s (.bl (prB p q t))) h := by
  have tf := tupof_ok (n := n + 1) (H.df 3 (by decide) rfl) t 2 (okV_T ht)
  cases t with
  | tup xs =>
    by_cases l : xs.length = 2
    · match xs, l, ht with
      | [a, b], l, ht =>
        simp only [okV, okVs, Bool.and_eq_true, Bool.and_true] at ht
        have l' : decide ((([a, b] : List T).length : Int) = 2) = true := rfl
        rw [show tuB (.tup [a, b]) 2 = true from l'] at tf
        have fa := hf a (okV_T ht.1)
        have gb := hg b (okV_T ht.2)
        cases qa : p a with
        | false => rw [qa] at fa; simp only [↓evd, evu, evl, Nat.reduceAdd, Nat.reduceSub, Nat.reduceLeDiff, Nat.reduceEqDiff, Nat.zero_le, Nat.le_refl, Nat.zero_add, Nat.add_zero, Int.reduceEq, Int.reduceLE, Int.reduceLT, Int.reduceAdd, Int.reduceSub, Int.reduceMul, Int.reduceNeg, Int.cast_ofNat_Int, Int.natCast_add, Int.natCast_zero, Int.natCast_one, e5, e3, e4, tf, fn_s, fa, prB, qa]
        | true => rw [qa] at fa; simp only [↓evd, evu, evl, Nat.reduceAdd, Nat.reduceSub, Nat.reduceLeDiff, Nat.reduceEqDiff, Nat.zero_le, Nat.le_refl, Nat.zero_add, Nat.add_zero, Int.reduceEq, Int.reduceLE, Int.reduceLT, Int.reduceAdd, Int.reduceSub, Int.reduceMul, Int.reduceNeg, Int.cast_ofNat_Int, Int.natCast_add, Int.natCast_zero, Int.natCast_one, e5, e3, e4, tf, fn_s, fa, gb, prB, qa]
    · have l' : decide ((xs.length : Int) = 2) = false := decide_eq_false (by omega)
      rw [show tuB (.tup xs) 2 = false from l'] at tf
      have : prB p q (.tup xs) = false := by
        unfold prB; split
        · rename_i e; cases e; exact absurd rfl l
        · rfl
      simp only [↓evd, evu, evl, Nat.reduceAdd, Nat.reduceSub, Nat.reduceLeDiff, Nat.reduceEqDiff, Nat.zero_le, Nat.le_refl, Nat.zero_add, Nat.add_zero, Int.reduceEq, Int.reduceLE, Int.reduceLT, Int.reduceAdd, Int.reduceSub, Int.reduceMul, Int.reduceNeg, Int.cast_ofNat_Int, Int.natCast_add, Int.natCast_zero, Int.natCast_one, e5, tf, this]
  | _ => simp only [↓evd, evu, evl, Nat.reduceAdd, Nat.reduceSub, Nat.reduceLeDiff, Nat.reduceEqDiff, Nat.zero_le, Nat.le_refl, Nat.zero_add, Nat.add_zero, Int.reduceEq, Int.reduceLE, Int.reduceLT, Int.reduceAdd, Int.reduceSub, Int.reduceMul, Int.reduceNeg, Int.cast_ofNat_Int, Int.natCast_add, Int.natCast_zero, Int.natCast_one, e5, tf, prB, tuB]
theorem fst_ints {p q : T → Bool} (hp : ∀ x, p x = true → ∃ i, x = .int i) : ∀ {xs : List T}, xs.all (prB p q) = true → ∃ is : List Int, xs.map fstT = is.map .int
  | [], _ => ⟨[], rfl⟩
  | x :: xs, a => by
    rw [List.all_cons, Bool.and_eq_true] at a
    obtain ⟨is, e⟩ := fst_ints hp a.2
    have ax := a.1
    unfold prB at ax
    split at ax
    · rename_i u v
      rw [Bool.and_eq_true] at ax
      obtain ⟨i, rfl⟩ := hp u ax.1
      exact ⟨i :: is, by rw [List.map_cons, e]; rfl⟩
    · cases ax
theorem pr_inv {p q : T → Bool} {x : T} (a : prB p q x = true) : ∃ u v, x = .tup [u, v] ∧ p u = true ∧ q v = true := by
  unfold prB at a
  split at a
  · rw [Bool.and_eq_true] at a
    exact ⟨_, _, rfl, a.1, a.2⟩
  · cases a
theorem table_ok (H : HasRoll P) {f g : Nat} {p q : T → Bool} (hf : ∀ x, okT h x = true → callF P (n + 2) f [.s x] h = .ok (.s (.bl (p x))) h) (hg : ∀ x, okT h x = true → callF P (n + 2) g [.s x] h = .ok (.s (.bl (q x))) h) (hp : ∀ x, p x = true → ∃ i, x = .int i) (t : T) (ht : okV h t = true) (lo hi : Int) (hlo : 1 ≤ lo) :
    callF P (n + 3) 11 [.s t, .s (.int lo), .s (.int hi), .s (.fn f), .s (.fn g)] h = .ok (.s (.bl (tabB p q lo hi t))) h := by
  rw [call_eq (H.df 11 (by decide) rfl) rfl, p_is_table]
  have i1 := isi_tup t h (okV_T ht)
  cases t with
  | tup xs =>
    simp only [↓evd, evu, evl, Nat.reduceAdd, Nat.reduceSub, Nat.reduceLeDiff, Nat.reduceEqDiff, Nat.zero_le, Nat.le_refl, Nat.zero_add, Nat.add_zero, Int.reduceEq, Int.reduceLE, Int.reduceLT, Int.reduceAdd, Int.reduceSub, Int.reduceMul, Int.reduceNeg, Int.cast_ofNat_Int, Int.natCast_add, Int.natCast_zero, Int.natCast_one, i1, isTupB]
    by_cases c1 : lo ≤ (xs.length : Int)
    · by_cases c2 : (xs.length : Int) ≤ hi
      · simp only [↓evd, evu, evl, Nat.reduceAdd, Nat.reduceSub, Nat.reduceLeDiff, Nat.reduceEqDiff, Nat.zero_le, Nat.le_refl, Nat.zero_add, Nat.add_zero, Int.reduceEq, Int.reduceLE, Int.reduceLT, Int.reduceAdd, Int.reduceSub, Int.reduceMul, Int.reduceNeg, Int.cast_ofNat_Int, Int.natCast_add, Int.natCast_zero, Int.natCast_one, c1, c2, lcK]
        rw [lc_map (g := fun t => .bl (prB p q t)) rfl]
        rotate_left
        · intro x hx
          rw [lcB_k rfl]
          have := pair_ok H hf hg x (okVs_mem ht hx) [some (D.s (T.tup xs)), some (D.s (T.int lo)), some (D.s (T.int hi)), some (D.s (T.fn f)), some (D.s (T.fn g)), some (D.s x)] rfl rfl rfl
          simp only [xC_0, k_ok, bk_t, w_c, w_0, st_c, st_0, this, fix_s]
        simp only [↓evd, evu, evl, Nat.reduceAdd, Nat.reduceSub, Nat.reduceLeDiff, Nat.reduceEqDiff, Nat.zero_le, Nat.le_refl, Nat.zero_add, Nat.add_zero, Int.reduceEq, Int.reduceLE, Int.reduceLT, Int.reduceAdd, Int.reduceSub, Int.reduceMul, Int.reduceNeg, Int.cast_ofNat_Int, Int.natCast_add, Int.natCast_zero, Int.natCast_one, List.nil_append, bi_all]
        cases c3 : xs.all (prB p q) with
        | false => simp only [↓evd, evu, evl, Nat.reduceAdd, Nat.reduceSub, Nat.reduceLeDiff, Nat.reduceEqDiff, Nat.zero_le, Nat.le_refl, Nat.zero_add, Nat.add_zero, Int.reduceEq, Int.reduceLE, Int.reduceLT, Int.reduceAdd, Int.reduceSub, Int.reduceMul, Int.reduceNeg, Int.cast_ofNat_Int, Int.natCast_add, Int.natCast_zero, Int.natCast_one, tabB, c1, c2, c3]
        | true =>
          obtain ⟨is, ei⟩ := fst_ints hp c3
          simp only [↓evd, evu, evl, Nat.reduceAdd, Nat.reduceSub, Nat.reduceLeDiff, Nat.reduceEqDiff, Nat.zero_le, Nat.le_refl, Nat.zero_add, Nat.add_zero, Int.reduceEq, Int.reduceLE, Int.reduceLT, Int.reduceAdd, Int.reduceSub, Int.reduceMul, Int.reduceNeg, Int.cast_ofNat_Int, Int.natCast_add, Int.natCast_zero, Int.natCast_one, lcK]
          rw [lc_map (g := fstT) rfl]
          rotate_left
          · intro x hx
            rw [lcB_k rfl]
            obtain ⟨u, v, rfl, _, _⟩ := pr_inv (List.all_eq_true.mp c3 x hx)
            simp only [↓evd, evu, evl, Nat.reduceAdd, Nat.reduceSub, Nat.reduceLeDiff, Nat.reduceEqDiff, Nat.zero_le, Nat.le_refl, Nat.zero_add, Nat.add_zero, Int.reduceEq, Int.reduceLE, Int.reduceLT, Int.reduceAdd, Int.reduceSub, Int.reduceMul, Int.reduceNeg, Int.cast_ofNat_Int, Int.natCast_add, Int.natCast_zero, Int.natCast_one, fstT]
          rw [ei]
          simp only [↓evd, evu, evl, Nat.reduceAdd, Nat.reduceSub, Nat.reduceLeDiff, Nat.reduceEqDiff, Nat.zero_le, Nat.le_refl, Nat.zero_add, Nat.add_zero, Int.reduceEq, Int.reduceLE, Int.reduceLT, Int.reduceAdd, Int.reduceSub, Int.reduceMul, Int.reduceNeg, Int.cast_ofNat_Int, Int.natCast_add, Int.natCast_zero, Int.natCast_one, List.nil_append, rising_ok (n := n + 1) H is]
          cases c4 : risB (is.map T.int) with
          | false => simp only [↓evd, evu, evl, Nat.reduceAdd, Nat.reduceSub, Nat.reduceLeDiff, Nat.reduceEqDiff, Nat.zero_le, Nat.le_refl, Nat.zero_add, Nat.add_zero, Int.reduceEq, Int.reduceLE, Int.reduceLT, Int.reduceAdd, Int.reduceSub, Int.reduceMul, Int.reduceNeg, Int.cast_ofNat_Int, Int.natCast_add, Int.natCast_zero, Int.natCast_one, tabB, c1, c2, c3, ei, c4]
          | true =>
            match xs, c1, c3, ei with
            | [], c1, _, _ => simp at c1; omega
            | x :: xs, c1, c3, ei =>
              rw [List.all_cons, Bool.and_eq_true] at c3
              obtain ⟨u, v, rfl, pu, _⟩ := pr_inv c3.1
              obtain ⟨i, rfl⟩ := hp u pu
              simp only [↓evd, evu, evl, Nat.reduceAdd, Nat.reduceSub, Nat.reduceLeDiff, Nat.reduceEqDiff, Nat.zero_le, Nat.le_refl, Nat.zero_add, Nat.add_zero, Int.reduceEq, Int.reduceLE, Int.reduceLT, Int.reduceAdd, Int.reduceSub, Int.reduceMul, Int.reduceNeg, Int.cast_ofNat_Int, Int.natCast_add, Int.natCast_zero, Int.natCast_one]
              have ca : (T.tup [.int i, v] :: xs).all (prB p q) = true := by rw [List.all_cons, c3.1, c3.2]; rfl
              simp only [tabB, c1, c2, ca, ei, c4, fstT, T.int.injEq, decide_true, Bool.and_self, Bool.true_and]
      · simp only [↓evd, evu, evl, Nat.reduceAdd, Nat.reduceSub, Nat.reduceLeDiff, Nat.reduceEqDiff, Nat.zero_le, Nat.le_refl, Nat.zero_add, Nat.add_zero, Int.reduceEq, Int.reduceLE, Int.reduceLT, Int.reduceAdd, Int.reduceSub, Int.reduceMul, Int.reduceNeg, Int.cast_ofNat_Int, Int.natCast_add, Int.natCast_zero, Int.natCast_one, c1, c2, tabB]
    · simp only [↓evd, evu, evl, Nat.reduceAdd, Nat.reduceSub, Nat.reduceLeDiff, Nat.reduceEqDiff, Nat.zero_le, Nat.le_refl, Nat.zero_add, Nat.add_zero, Int.reduceEq, Int.reduceLE, Int.reduceLT, Int.reduceAdd, Int.reduceSub, Int.reduceMul, Int.reduceNeg, Int.cast_ofNat_Int, Int.natCast_add, Int.natCast_zero, Int.natCast_one, c1, tabB]
  | _ => simp only [↓evd, evu, evl, Nat.reduceAdd, Nat.reduceSub, Nat.reduceLeDiff, Nat.reduceEqDiff, Nat.zero_le, Nat.le_refl, Nat.zero_add, Nat.add_zero, Int.reduceEq, Int.reduceLE, Int.reduceLT, Int.reduceAdd, Int.reduceSub, Int.reduceMul, Int.reduceNeg, Int.cast_ofNat_Int, Int.natCast_add, Int.natCast_zero, Int.natCast_one, i1, isTupB, tabB]
end
end Rm
set_option Elab.async false
set_option linter.all false
set_option autoImplicit false
set_option maxRecDepth 100000
namespace Rm
open Kp
abbrev landT (t : T) : Bool := amT t 0 999
def stepsB (t : T) : Bool := tabB (fun t => amT t 0 999) (fun t => amT t 0 9) 1 6 t
def landsB (t : T) : Bool := tabB (fun t => amT t 0 239) (fun t => amT t 0 999) 1 8 t
def teamB : T → Bool
  | .tup [a, b] => amT a 0 999 && amT b 1 6
  | _ => false
def fieldB (k : Int) (t : T) : Bool :=
  if k = 0 then stepsB t else if k = 1 then teamB t else if k = 6 then amT t 1 9 else amT t 0 (if k < 4 then 99 else 40)
def houseB : T → Bool
  | .tup [a, b, c, d] => nmT a && amT b 0 99 && amT c 0 9 && landsB d
  | _ => false
theorem am_i {t : T} {lo hi : Int} (x : amT t lo hi = true) : ∃ i, t = .int i := let ⟨i, e, _⟩ := am_inv x; ⟨i, e⟩
section
variable {P : Pg} {n : Nat} {h : LH}
theorem steps_ok (H : HasRoll P) (t : T) (ht : okV h t = true) : callF P (n + 4) 13 [.s t] h = .ok (.s (.bl (stepsB t))) h := by
  rw [call_eq (H.df 13 (by decide) rfl) rfl, p_is_steps]
  have k := table_ok (n := n) H (fun x hx => land_ok (n := n) H x hx) (fun x hx => due_ok (n := n) H x hx) (fun x => am_i) t ht 1 6 (by decide)
  simp only [↓evd, evu, evl, Nat.reduceAdd, Nat.reduceSub, Nat.reduceLeDiff, Nat.reduceEqDiff, Nat.zero_le, Nat.le_refl, Nat.zero_add, Nat.add_zero, Int.reduceEq, Int.reduceLE, Int.reduceLT, Int.reduceAdd, Int.reduceSub, Int.reduceMul, Int.reduceNeg, Int.cast_ofNat_Int, Int.natCast_add, Int.natCast_zero, Int.natCast_one, H.gl 14 (by decide) rfl, H.df 6 (by decide) rfl, H.df 12 (by decide) rfl, Option.isSome, k, stepsB]
theorem lands_ok (H : HasRoll P) (t : T) (ht : okV h t = true) : callF P (n + 4) 15 [.s t] h = .ok (.s (.bl (landsB t))) h := by
  rw [call_eq (H.df 15 (by decide) rfl) rfl, p_is_lands]
  have k := table_ok (n := n) H (fun x hx => day_ok (n := n) H x hx) (fun x hx => land_ok (n := n) H x hx) (fun x => am_i) t ht 1 8 (by decide)
  simp only [↓evd, evu, evl, Nat.reduceAdd, Nat.reduceSub, Nat.reduceLeDiff, Nat.reduceEqDiff, Nat.zero_le, Nat.le_refl, Nat.zero_add, Nat.add_zero, Int.reduceEq, Int.reduceLE, Int.reduceLT, Int.reduceAdd, Int.reduceSub, Int.reduceMul, Int.reduceNeg, Int.cast_ofNat_Int, Int.natCast_add, Int.natCast_zero, Int.natCast_one, H.gl 20 (by decide) rfl, H.df 2 (by decide) rfl, H.df 6 (by decide) rfl, Option.isSome, k, landsB]
theorem team_ok (H : HasRoll P) (t : T) (ht : okV h t = true) : callF P (n + 3) 14 [.s t] h = .ok (.s (.bl (teamB t))) h := by
  rw [call_eq (H.df 14 (by decide) rfl) rfl, p_is_team]
  have tf := tupof_ok (n := n + 1) (H.df 3 (by decide) rfl) t 2 (okV_T ht)
  have g := H.gl 15 (by decide) (t := .int 6) rfl
  cases t with
  | tup xs =>
    by_cases l : xs.length = 2
    · match xs, l, ht with
      | [a, b], l, ht =>
        simp only [okV, okVs, Bool.and_eq_true, Bool.and_true] at ht
        rw [show tuB (.tup [a, b]) 2 = true from rfl] at tf
        have fa := land_ok (n := n) H a (okV_T ht.1)
        have fb := among_ok (n := n + 1) (H.df 0 (by decide) rfl) b 1 6 (okV_T ht.2)
        cases qa : amT a 0 999 <;> rw [qa] at fa <;> simp only [↓evd, evu, evl, Nat.reduceAdd, Nat.reduceSub, Nat.reduceLeDiff, Nat.reduceEqDiff, Nat.zero_le, Nat.le_refl, Nat.zero_add, Nat.add_zero, Int.reduceEq, Int.reduceLE, Int.reduceLT, Int.reduceAdd, Int.reduceSub, Int.reduceMul, Int.reduceNeg, Int.cast_ofNat_Int, Int.natCast_add, Int.natCast_zero, Int.natCast_one, tf, fa, g, fb, teamB, qa]
    · have l' : tuB (.tup xs) 2 = false := decide_eq_false (by omega)
      rw [l'] at tf
      have : teamB (.tup xs) = false := by
        unfold teamB; split
        · rename_i e; cases e; exact absurd rfl l
        · rfl
      simp only [↓evd, evu, evl, Nat.reduceAdd, Nat.reduceSub, Nat.reduceLeDiff, Nat.reduceEqDiff, Nat.zero_le, Nat.le_refl, Nat.zero_add, Nat.add_zero, Int.reduceEq, Int.reduceLE, Int.reduceLT, Int.reduceAdd, Int.reduceSub, Int.reduceMul, Int.reduceNeg, Int.cast_ofNat_Int, Int.natCast_add, Int.natCast_zero, Int.natCast_one, tf, this]
  | _ => simp only [↓evd, evu, evl, Nat.reduceAdd, Nat.reduceSub, Nat.reduceLeDiff, Nat.reduceEqDiff, Nat.zero_le, Nat.le_refl, Nat.zero_add, Nat.add_zero, Int.reduceEq, Int.reduceLE, Int.reduceLT, Int.reduceAdd, Int.reduceSub, Int.reduceMul, Int.reduceNeg, Int.cast_ofNat_Int, Int.natCast_add, Int.natCast_zero, Int.natCast_one, tf, tuB, teamB]
theorem field_ok (H : HasRoll P) (k : Int) (t : T) (ht : okV h t = true) : callF P (n + 5) 18 [.s (.int k), .s t] h = .ok (.s (.bl (fieldB k t))) h := by
  rw [call_eq (H.df 18 (by decide) rfl) rfl, p_is_field]
  have f1 := steps_ok (n := n) H t ht
  have f2 := team_ok (n := n + 1) H t ht
  have f3 := among_ok (n := n + 3) (H.df 0 (by decide) rfl) t 1 9 (okV_T ht)
  have f4 := among_ok (n := n + 3) (H.df 0 (by decide) rfl) t 0 99 (okV_T ht)
  have f5 := among_ok (n := n + 3) (H.df 0 (by decide) rfl) t 0 40 (okV_T ht)
  have g1 := H.gl 16 (by decide) (t := .int 7) rfl
  have g2 := H.gl 17 (by decide) (t := .int 9) rfl
  have g3 := H.gl 18 (by decide) (t := .int 99) rfl
  have g4 := H.gl 19 (by decide) (t := .int 40) rfl
  by_cases c0 : k = 0
  · subst c0; simp only [↓evd, evu, evl, Nat.reduceAdd, Nat.reduceSub, Nat.reduceLeDiff, Nat.reduceEqDiff, Nat.zero_le, Nat.le_refl, Nat.zero_add, Nat.add_zero, Int.reduceEq, Int.reduceLE, Int.reduceLT, Int.reduceAdd, Int.reduceSub, Int.reduceMul, Int.reduceNeg, Int.cast_ofNat_Int, Int.natCast_add, Int.natCast_zero, Int.natCast_one, f1, fieldB, if_true]
  by_cases c1 : k = 1
  · subst c1; simp only [↓evd, evu, evl, Nat.reduceAdd, Nat.reduceSub, Nat.reduceLeDiff, Nat.reduceEqDiff, Nat.zero_le, Nat.le_refl, Nat.zero_add, Nat.add_zero, Int.reduceEq, Int.reduceLE, Int.reduceLT, Int.reduceAdd, Int.reduceSub, Int.reduceMul, Int.reduceNeg, Int.cast_ofNat_Int, Int.natCast_add, Int.natCast_zero, Int.natCast_one, f2, fieldB, if_true, if_false]
  by_cases c2 : k = 6
  · subst c2; simp only [↓evd, evu, evl, Nat.reduceAdd, Nat.reduceSub, Nat.reduceLeDiff, Nat.reduceEqDiff, Nat.zero_le, Nat.le_refl, Nat.zero_add, Nat.add_zero, Int.reduceEq, Int.reduceLE, Int.reduceLT, Int.reduceAdd, Int.reduceSub, Int.reduceMul, Int.reduceNeg, Int.cast_ofNat_Int, Int.natCast_add, Int.natCast_zero, Int.natCast_one, g1, g2, f3, fieldB, if_true, if_false]
  by_cases c3 : k < 4
  · simp only [↓evd, evu, evl, Nat.reduceAdd, Nat.reduceSub, Nat.reduceLeDiff, Nat.reduceEqDiff, Nat.zero_le, Nat.le_refl, Nat.zero_add, Nat.add_zero, Int.reduceEq, Int.reduceLE, Int.reduceLT, Int.reduceAdd, Int.reduceSub, Int.reduceMul, Int.reduceNeg, Int.cast_ofNat_Int, Int.natCast_add, Int.natCast_zero, Int.natCast_one, c0, c1, g1, c2, c3, g3, f4, fieldB, if_true, if_false]
  · simp only [↓evd, evu, evl, Nat.reduceAdd, Nat.reduceSub, Nat.reduceLeDiff, Nat.reduceEqDiff, Nat.zero_le, Nat.le_refl, Nat.zero_add, Nat.add_zero, Int.reduceEq, Int.reduceLE, Int.reduceLT, Int.reduceAdd, Int.reduceSub, Int.reduceMul, Int.reduceNeg, Int.cast_ofNat_Int, Int.natCast_add, Int.natCast_zero, Int.natCast_one, c0, c1, g1, c2, c3, g4, f5, fieldB, if_true, if_false]
theorem house_ok (H : HasRoll P) (t : T) (ht : okV h t = true) : callF P (n + 5) 21 [.s t] h = .ok (.s (.bl (houseB t))) h := by
  rw [call_eq (H.df 21 (by decide) rfl) rfl, p_is_house]
  have tf := tupof_ok (n := n + 3) (H.df 3 (by decide) rfl) t 4 (okV_T ht)
  have g1 := H.gl 21 (by decide) (t := .int 99) rfl
  have g2 := H.gl 22 (by decide) (t := .int 9) rfl
  cases t with
  | tup xs =>
    by_cases l : xs.length = 4
    · match xs, l, ht with
      | [a, b, c, d], l, ht =>
        simp only [okV, okVs, Bool.and_eq_true, Bool.and_true] at ht
        obtain ⟨oa, ob, oc, od⟩ := ht
        rw [show tuB (.tup [a, b, c, d]) 4 = true from rfl] at tf
        have fa := name_ok (n := n + 3) H a (okV_T oa)
        have fb := among_ok (n := n + 3) (H.df 0 (by decide) rfl) b 0 99 (okV_T ob)
        have fc := among_ok (n := n + 3) (H.df 0 (by decide) rfl) c 0 9 (okV_T oc)
        have fd := lands_ok (n := n) H d od
        cases qa : nmT a with
        | false => rw [qa] at fa; simp only [↓evd, evu, evl, Nat.reduceAdd, Nat.reduceSub, Nat.reduceLeDiff, Nat.reduceEqDiff, Nat.zero_le, Nat.le_refl, Nat.zero_add, Nat.add_zero, Int.reduceEq, Int.reduceLE, Int.reduceLT, Int.reduceAdd, Int.reduceSub, Int.reduceMul, Int.reduceNeg, Int.cast_ofNat_Int, Int.natCast_add, Int.natCast_zero, Int.natCast_one, tf, fa, houseB, qa]
        | true =>
          rw [qa] at fa
          cases qb : amT b 0 99 with
          | false => rw [qb] at fb; simp only [↓evd, evu, evl, Nat.reduceAdd, Nat.reduceSub, Nat.reduceLeDiff, Nat.reduceEqDiff, Nat.zero_le, Nat.le_refl, Nat.zero_add, Nat.add_zero, Int.reduceEq, Int.reduceLE, Int.reduceLT, Int.reduceAdd, Int.reduceSub, Int.reduceMul, Int.reduceNeg, Int.cast_ofNat_Int, Int.natCast_add, Int.natCast_zero, Int.natCast_one, tf, fa, g1, fb, houseB, qa, qb]
          | true => rw [qb] at fb; cases qc : amT c 0 9 <;> rw [qc] at fc <;> simp only [↓evd, evu, evl, Nat.reduceAdd, Nat.reduceSub, Nat.reduceLeDiff, Nat.reduceEqDiff, Nat.zero_le, Nat.le_refl, Nat.zero_add, Nat.add_zero, Int.reduceEq, Int.reduceLE, Int.reduceLT, Int.reduceAdd, Int.reduceSub, Int.reduceMul, Int.reduceNeg, Int.cast_ofNat_Int, Int.natCast_add, Int.natCast_zero, Int.natCast_one, tf, fa, g1, fb, g2, fc, fd, houseB, qa, qb, qc]
    · have l' : tuB (.tup xs) 4 = false := decide_eq_false (by omega)
      rw [l'] at tf
      have : houseB (.tup xs) = false := by
        unfold houseB; split
        · rename_i e; cases e; exact absurd rfl l
        · rfl
      simp only [↓evd, evu, evl, Nat.reduceAdd, Nat.reduceSub, Nat.reduceLeDiff, Nat.reduceEqDiff, Nat.zero_le, Nat.le_refl, Nat.zero_add, Nat.add_zero, Int.reduceEq, Int.reduceLE, Int.reduceLT, Int.reduceAdd, Int.reduceSub, Int.reduceMul, Int.reduceNeg, Int.cast_ofNat_Int, Int.natCast_add, Int.natCast_zero, Int.natCast_one, tf, this]
  | _ => simp only [↓evd, evu, evl, Nat.reduceAdd, Nat.reduceSub, Nat.reduceLeDiff, Nat.reduceEqDiff, Nat.zero_le, Nat.le_refl, Nat.zero_add, Nat.add_zero, Int.reduceEq, Int.reduceLE, Int.reduceLT, Int.reduceAdd, Int.reduceSub, Int.reduceMul, Int.reduceNeg, Int.cast_ofNat_Int, Int.natCast_add, Int.natCast_zero, Int.natCast_one, tf, tuB, houseB]
end
end Rm
set_option Elab.async false
set_option linter.all false
set_option autoImplicit false
set_option maxRecDepth 100000
namespace Rm
open Kp
section
variable {P : Pg} {n : Nat} {h : LH}
/-- a loop that returns at the first thing that isn't so -/
theorem for_find {G : Nat → List D → LH → R D} {tg : Tg} {body : List Sx} {ok : T → Bool} {d : D} {Good : Sg → Prop} : ∀ (xs : List T) (s : Sg), Good s →
    (∀ x ∈ xs, ∀ s, Good s → (ok x = true → ∃ s', forB P G tg body x s h = .nx s' h ∧ Good s') ∧ (ok x = false → forB P G tg body x s h = .ret d h)) →
    (xs.all ok = true → ∃ s', forK P G tg body [] h xs s h = .nx s' h ∧ Good s') ∧ (xs.all ok = false → forK P G tg body [] h xs s h = .ret d h)
  | [], s, g, _ => ⟨fun _ => ⟨s, rfl, g⟩, fun e => by cases e⟩
  | x :: xs, s, g, st => by
    have sx := st x (List.mem_cons_self ..) s g
    cases q : ok x with
    | false =>
      refine ⟨fun e => (by rw [List.all_cons, q] at e; cases e), fun _ => ?_⟩
      unfold forK forL
      rw [if_pos (stay_nil h h), sx.2 q]
    | true =>
      obtain ⟨s', e, g'⟩ := sx.1 q
      have ih := for_find xs s' g' fun y hy => st y (List.mem_cons_of_mem _ hy)
      have eq : forK P G tg body [] h (x :: xs) s h = forK P G tg body [] h xs s' h := by
        unfold forK
        rw [forL, if_pos (stay_nil h h), e]
      rw [List.all_cons, q, Bool.true_and, eq]
      exact ih
def rowB : T → Bool
  | .tup [y, a, b] => amT y 0 9 && amT a 0 99 && amT b 0 99
  | _ => false
def wantsB : T → Bool
  | .tup xs => decide ((xs.length : Int) ≤ 10) && xs.all rowB && risB (xs.map fstT)
  | _ => false
def stretchB : T → Bool
  | .tup [a, b, c, d] => nmT a && amT b 0 99 && nmT c && wantsB d
  | _ => false
theorem row_ints : ∀ {xs : List T}, xs.all rowB = true → ∃ is : List Int, xs.map fstT = is.map .int
  | [], _ => ⟨[], rfl⟩
  | x :: xs, a => by
    rw [List.all_cons, Bool.and_eq_true] at a
    obtain ⟨is, e⟩ := row_ints a.2
    have ax := a.1
    unfold rowB at ax
    split at ax
    · rename_i u v w
      rw [Bool.and_eq_true, Bool.and_eq_true] at ax
      obtain ⟨i, rfl⟩ := am_i ax.1.1
      exact ⟨i :: is, by rw [List.map_cons, e]; rfl⟩
    · cases ax
theorem row_inv {x : T} (a : rowB x = true) : ∃ y u v, x = .tup [y, u, v] := by
  unfold rowB at a
  split at a
  · exact ⟨_, _, _, rfl⟩
  · cases a
theorem sl_tp (xs : List T) (lo hi : Option Int) (h : LH) : slD (.s (.tup xs)) lo hi h = some (.s (.tup (cutT xs lo hi))) := rfl
theorem wants_ok (H : HasRoll P) (t : T) (ht : okV h t = true) : callF P (n + 3) 17 [.s t] h = .ok (.s (.bl (wantsB t))) h := by
  rw [call_eq (H.df 17 (by decide) rfl) rfl, p_is_wants]
  have i1 := isi_tup t h (okV_T ht)
  have g1 := H.gl 23 (by decide) (t := .int 10) rfl
  have g2 := H.gl 24 (by decide) (t := .int 99) rfl
  cases t with
  | tup xs =>
    by_cases c1 : (xs.length : Int) ≤ 10
    · have c1' : ¬ (10 < (xs.length : Int)) := by omega
      simp only [↓evd, evu, evl, Nat.reduceAdd, Nat.reduceSub, Nat.reduceLeDiff, Nat.reduceEqDiff, Nat.zero_le, Nat.le_refl, Nat.zero_add, Nat.add_zero, Int.reduceEq, Int.reduceLE, Int.reduceLT, Int.reduceAdd, Int.reduceSub, Int.reduceMul, Int.reduceNeg, Int.cast_ofNat_Int, Int.natCast_add, Int.natCast_zero, Int.natCast_one, i1, isTupB, g1, c1', ls_1, lo_s, bf_1, no_s]
      have L := for_find (P := P) (G := callF P (n + 2)) (h := h) (tg := .n 1) (body := [.iff (.or [.not (.call 3 [.v 1, .c (.int 3)]), .not (.call 16 [.ix (.v 1) (.c (.int 0))])]) [.ret (.c (.bl false))] [], .iff (.not (.bi .all [.lc (.call 0 [.v 2, .c (.int 0), .g 24]) (.n 2) (.e (.sl (.v 1) (some (.c (.int 1))) none)) [] [2]])) [.ret (.c (.bl false))] []]) (ok := rowB) (d := .s (.bl false)) (Good := fun s => ∃ s1, s = [some (.s (.tup xs)), s1, none]) xs [some (.s (.tup xs)), none, none] ⟨none, rfl⟩ ?_
      · cases c2 : xs.all rowB with
        | false => rw [L.2 c2]; simp only [↓evd, evu, evl, Nat.reduceAdd, Nat.reduceSub, Nat.reduceLeDiff, Nat.reduceEqDiff, Nat.zero_le, Nat.le_refl, Nat.zero_add, Nat.add_zero, Int.reduceEq, Int.reduceLE, Int.reduceLT, Int.reduceAdd, Int.reduceSub, Int.reduceMul, Int.reduceNeg, Int.cast_ofNat_Int, Int.natCast_add, Int.natCast_zero, Int.natCast_one, wantsB, c1, c2]
        | true =>
          obtain ⟨_, e, s1, rfl⟩ := L.1 c2
          obtain ⟨is, ei⟩ := row_ints c2
          rw [e]
          simp only [↓evd, evu, evl, Nat.reduceAdd, Nat.reduceSub, Nat.reduceLeDiff, Nat.reduceEqDiff, Nat.zero_le, Nat.le_refl, Nat.zero_add, Nat.add_zero, Int.reduceEq, Int.reduceLE, Int.reduceLT, Int.reduceAdd, Int.reduceSub, Int.reduceMul, Int.reduceNeg, Int.cast_ofNat_Int, Int.natCast_add, Int.natCast_zero, Int.natCast_one, lcK]
          rw [lc_map (g := fstT) rfl]
          rotate_left
          · intro x hx
            rw [lcB_k rfl]
            obtain ⟨y, u, v, rfl⟩ := row_inv (List.all_eq_true.mp c2 x hx)
            simp only [↓evd, evu, evl, Nat.reduceAdd, Nat.reduceSub, Nat.reduceLeDiff, Nat.reduceEqDiff, Nat.zero_le, Nat.le_refl, Nat.zero_add, Nat.add_zero, Int.reduceEq, Int.reduceLE, Int.reduceLT, Int.reduceAdd, Int.reduceSub, Int.reduceMul, Int.reduceNeg, Int.cast_ofNat_Int, Int.natCast_add, Int.natCast_zero, Int.natCast_one, fstT]
          rw [ei]
          simp only [↓evd, evu, evl, Nat.reduceAdd, Nat.reduceSub, Nat.reduceLeDiff, Nat.reduceEqDiff, Nat.zero_le, Nat.le_refl, Nat.zero_add, Nat.add_zero, Int.reduceEq, Int.reduceLE, Int.reduceLT, Int.reduceAdd, Int.reduceSub, Int.reduceMul, Int.reduceNeg, Int.cast_ofNat_Int, Int.natCast_add, Int.natCast_zero, Int.natCast_one, List.nil_append, rising_ok (n := n + 1) H is, wantsB, c1, c2, ei]
      · rintro x hx _ ⟨s1, rfl⟩
        have ox := okVs_mem ht hx
        have tf := tupof_ok (n := n + 1) (H.df 3 (by decide) rfl) x 3 (okV_T ox)
        rw [forB_k rfl]
        cases x with
        | tup ys =>
          by_cases l : ys.length = 3
          · match ys, l, ox with
            | [y, u, v], l, ox =>
              simp only [okV, okVs, Bool.and_eq_true, Bool.and_true] at ox
              rw [show tuB (.tup [y, u, v]) 3 = true from rfl] at tf
              have fy := year_ok (n := n) H y (okV_T ox.1)
              have fu := fun t (ht : okT h t = true) => among_ok (n := n + 1) (H.df 0 (by decide) rfl) t 0 99 ht
              cases qy : amT y 0 9 with
              | false => rw [qy] at fy; simp only [↓evd, evu, evl, Nat.reduceAdd, Nat.reduceSub, Nat.reduceLeDiff, Nat.reduceEqDiff, Nat.zero_le, Nat.le_refl, Nat.zero_add, Nat.add_zero, Int.reduceEq, Int.reduceLE, Int.reduceLT, Int.reduceAdd, Int.reduceSub, Int.reduceMul, Int.reduceNeg, Int.cast_ofNat_Int, Int.natCast_add, Int.natCast_zero, Int.natCast_one, tf, fy]; simp [rowB, qy]
              | true =>
                rw [qy] at fy
                simp only [↓evd, evu, evl, Nat.reduceAdd, Nat.reduceSub, Nat.reduceLeDiff, Nat.reduceEqDiff, Nat.zero_le, Nat.le_refl, Nat.zero_add, Nat.add_zero, Int.reduceEq, Int.reduceLE, Int.reduceLT, Int.reduceAdd, Int.reduceSub, Int.reduceMul, Int.reduceNeg, Int.cast_ofNat_Int, Int.natCast_add, Int.natCast_zero, Int.natCast_one, tf, fy, sl_tp, cut_1, List.drop, lcK]
                rw [lc_map (g := fun t => .bl (amT t 0 99)) rfl]
                rotate_left
                · intro z hz
                  rw [lcB_k rfl]
                  have oz : okT h z = true := by
                    simp only [List.mem_cons, List.not_mem_nil, or_false] at hz
                    rcases hz with rfl | rfl
                    · exact okV_T ox.2.1
                    · exact okV_T ox.2.2
                  simp only [↓evd, evu, evl, Nat.reduceAdd, Nat.reduceSub, Nat.reduceLeDiff, Nat.reduceEqDiff, Nat.zero_le, Nat.le_refl, Nat.zero_add, Nat.add_zero, Int.reduceEq, Int.reduceLE, Int.reduceLT, Int.reduceAdd, Int.reduceSub, Int.reduceMul, Int.reduceNeg, Int.cast_ofNat_Int, Int.natCast_add, Int.natCast_zero, Int.natCast_one, g2, fu z oz]
                simp only [↓evd, evu, evl, Nat.reduceAdd, Nat.reduceSub, Nat.reduceLeDiff, Nat.reduceEqDiff, Nat.zero_le, Nat.le_refl, Nat.zero_add, Nat.add_zero, Int.reduceEq, Int.reduceLE, Int.reduceLT, Int.reduceAdd, Int.reduceSub, Int.reduceMul, Int.reduceNeg, Int.cast_ofNat_Int, Int.natCast_add, Int.natCast_zero, Int.natCast_one, List.nil_append, bi_all, List.all_cons, List.all_nil]
                cases qu : amT u 0 99 <;> cases qv : amT v 0 99 <;> simp only [↓evd, evu, evl, Nat.reduceAdd, Nat.reduceSub, Nat.reduceLeDiff, Nat.reduceEqDiff, Nat.zero_le, Nat.le_refl, Nat.zero_add, Nat.add_zero, Int.reduceEq, Int.reduceLE, Int.reduceLT, Int.reduceAdd, Int.reduceSub, Int.reduceMul, Int.reduceNeg, Int.cast_ofNat_Int, Int.natCast_add, Int.natCast_zero, Int.natCast_one, ] <;> simp [rowB, qy, qu, qv]
          · have l' : tuB (.tup ys) 3 = false := decide_eq_false (by omega)
            rw [l'] at tf
            have : rowB (.tup ys) = false := by
              unfold rowB; split
              · rename_i e; cases e; exact absurd rfl l
              · rfl
            simp only [↓evd, evu, evl, Nat.reduceAdd, Nat.reduceSub, Nat.reduceLeDiff, Nat.reduceEqDiff, Nat.zero_le, Nat.le_refl, Nat.zero_add, Nat.add_zero, Int.reduceEq, Int.reduceLE, Int.reduceLT, Int.reduceAdd, Int.reduceSub, Int.reduceMul, Int.reduceNeg, Int.cast_ofNat_Int, Int.natCast_add, Int.natCast_zero, Int.natCast_one, tf]; simp [this]
        | _ => simp only [↓evd, evu, evl, Nat.reduceAdd, Nat.reduceSub, Nat.reduceLeDiff, Nat.reduceEqDiff, Nat.zero_le, Nat.le_refl, Nat.zero_add, Nat.add_zero, Int.reduceEq, Int.reduceLE, Int.reduceLT, Int.reduceAdd, Int.reduceSub, Int.reduceMul, Int.reduceNeg, Int.cast_ofNat_Int, Int.natCast_add, Int.natCast_zero, Int.natCast_one, tf, tuB]; simp [rowB]
    · have c1' : 10 < (xs.length : Int) := by omega
      simp only [↓evd, evu, evl, Nat.reduceAdd, Nat.reduceSub, Nat.reduceLeDiff, Nat.reduceEqDiff, Nat.zero_le, Nat.le_refl, Nat.zero_add, Nat.add_zero, Int.reduceEq, Int.reduceLE, Int.reduceLT, Int.reduceAdd, Int.reduceSub, Int.reduceMul, Int.reduceNeg, Int.cast_ofNat_Int, Int.natCast_add, Int.natCast_zero, Int.natCast_one, i1, isTupB, g1, c1', wantsB, c1]
  | _ => simp only [↓evd, evu, evl, Nat.reduceAdd, Nat.reduceSub, Nat.reduceLeDiff, Nat.reduceEqDiff, Nat.zero_le, Nat.le_refl, Nat.zero_add, Nat.add_zero, Int.reduceEq, Int.reduceLE, Int.reduceLT, Int.reduceAdd, Int.reduceSub, Int.reduceMul, Int.reduceNeg, Int.cast_ofNat_Int, Int.natCast_add, Int.natCast_zero, Int.natCast_one, i1, isTupB, wantsB]
end
end Rm
set_option Elab.async false
set_option linter.all false
set_option autoImplicit false
set_option maxRecDepth 100000
namespace Rm
open Kp
section
variable {P : Pg} {n : Nat} {h : LH}
theorem stretch_ok (H : HasRoll P) (t : T) (ht : okV h t = true) : callF P (n + 4) 22 [.s t] h = .ok (.s (.bl (stretchB t))) h := by
  rw [call_eq (H.df 22 (by decide) rfl) rfl, p_is_stretch]
  have tf := tupof_ok (n := n + 2) (H.df 3 (by decide) rfl) t 4 (okV_T ht)
  have g1 := H.gl 21 (by decide) (t := .int 99) rfl
  cases t with
  | tup xs =>
    by_cases l : xs.length = 4
    · match xs, l, ht with
      | [a, b, c, d], l, ht =>
        simp only [okV, okVs, Bool.and_eq_true, Bool.and_true] at ht
        obtain ⟨oa, ob, oc, od⟩ := ht
        rw [show tuB (.tup [a, b, c, d]) 4 = true from rfl] at tf
        have fa := name_ok (n := n + 2) H a (okV_T oa)
        have fb := among_ok (n := n + 2) (H.df 0 (by decide) rfl) b 0 99 (okV_T ob)
        have fc := name_ok (n := n + 2) H c (okV_T oc)
        have fd := wants_ok (n := n) H d od
        cases qa : nmT a with
        | false => rw [qa] at fa; simp only [↓evd, evu, evl, Nat.reduceAdd, Nat.reduceSub, Nat.reduceLeDiff, Nat.reduceEqDiff, Nat.zero_le, Nat.le_refl, Nat.zero_add, Nat.add_zero, Int.reduceEq, Int.reduceLE, Int.reduceLT, Int.reduceAdd, Int.reduceSub, Int.reduceMul, Int.reduceNeg, Int.cast_ofNat_Int, Int.natCast_add, Int.natCast_zero, Int.natCast_one, tf, fa, stretchB, qa]
        | true =>
          rw [qa] at fa
          cases qb : amT b 0 99 with
          | false => rw [qb] at fb; simp only [↓evd, evu, evl, Nat.reduceAdd, Nat.reduceSub, Nat.reduceLeDiff, Nat.reduceEqDiff, Nat.zero_le, Nat.le_refl, Nat.zero_add, Nat.add_zero, Int.reduceEq, Int.reduceLE, Int.reduceLT, Int.reduceAdd, Int.reduceSub, Int.reduceMul, Int.reduceNeg, Int.cast_ofNat_Int, Int.natCast_add, Int.natCast_zero, Int.natCast_one, tf, fa, g1, fb, stretchB, qa, qb]
          | true => rw [qb] at fb; cases qc : nmT c <;> rw [qc] at fc <;> simp only [↓evd, evu, evl, Nat.reduceAdd, Nat.reduceSub, Nat.reduceLeDiff, Nat.reduceEqDiff, Nat.zero_le, Nat.le_refl, Nat.zero_add, Nat.add_zero, Int.reduceEq, Int.reduceLE, Int.reduceLT, Int.reduceAdd, Int.reduceSub, Int.reduceMul, Int.reduceNeg, Int.cast_ofNat_Int, Int.natCast_add, Int.natCast_zero, Int.natCast_one, tf, fa, g1, fb, fc, fd, stretchB, qa, qb, qc]
    · have l' : tuB (.tup xs) 4 = false := decide_eq_false (by omega)
      rw [l'] at tf
      have : stretchB (.tup xs) = false := by
        unfold stretchB; split
        · rename_i e; cases e; exact absurd rfl l
        · rfl
      simp only [↓evd, evu, evl, Nat.reduceAdd, Nat.reduceSub, Nat.reduceLeDiff, Nat.reduceEqDiff, Nat.zero_le, Nat.le_refl, Nat.zero_add, Nat.add_zero, Int.reduceEq, Int.reduceLE, Int.reduceLT, Int.reduceAdd, Int.reduceSub, Int.reduceMul, Int.reduceNeg, Int.cast_ofNat_Int, Int.natCast_add, Int.natCast_zero, Int.natCast_one, tf, this]
  | _ => simp only [↓evd, evu, evl, Nat.reduceAdd, Nat.reduceSub, Nat.reduceLeDiff, Nat.reduceEqDiff, Nat.zero_le, Nat.le_refl, Nat.zero_add, Nat.add_zero, Int.reduceEq, Int.reduceLE, Int.reduceLT, Int.reduceAdd, Int.reduceSub, Int.reduceMul, Int.reduceNeg, Int.cast_ofNat_Int, Int.natCast_add, Int.natCast_zero, Int.natCast_one, tf, tuB, stretchB]
/-- first things are texts, each another -/
def nmsB (xs : List T) : Bool := decide ((xs.map fstT).Nodup)
theorem in_strs (a : List Nat) (ss : List (List Nat)) (h : LH) : inD (.s (.str a)) (.vw (ss.map T.str)) h = some (decide (a ∈ ss)) := by
  have f : (ss.map T.str).all flatT = true := by rw [List.all_map]; simp [flatT]
  have e : inD (.s (.str a)) (.vw (ss.map T.str)) h = some ((ss.map T.str).any fun z => eqF z (.str a)) := by
    simp only [inD, dctOf, seqOf, lstOf, flatT, f, Bool.and_self, if_true]
  rw [e]
  congr 1
  rw [List.any_map, Bool.eq_iff_iff]
  simp [eqF]
theorem enm_get : ∀ (xs : List T) (k i : Nat) (t : T), (enmT k xs)[i]? = some t → ∃ x, xs[i]? = some x ∧ t = .tup [.int ((k + i : Nat) : Int), x]
  | [], k, i, t, e => by simp [enmT] at e
  | x :: xs, k, 0, t, e => by
    simp only [enmT, List.getElem?_cons_zero, Option.some.injEq] at e
    exact ⟨x, rfl, by rw [← e]; rfl⟩
  | x :: xs, k, i + 1, t, e => by
    simp only [enmT, List.getElem?_cons_succ] at e
    obtain ⟨y, e1, e2⟩ := enm_get xs (k + 1) i t e
    exact ⟨y, by simpa using e1, by rw [e2]; congr 4; omega⟩
/-- things that are such, called unlike: none is bad -/
theorem first_ok (H : HasRoll P) {f : Nat} {p : T → Bool} (hf : ∀ x, okV h x = true → callF P n f [.s x] h = .ok (.s (.bl (p x))) h) (ss : List (List Nat)) (xs : List T) (hx : okVs h xs = true) (hp : xs.all p = true) (hs : ∀ x ∈ xs, ∃ a r, x = .tup (.str a :: r)) (hn : xs.map fstT = ss.map T.str) (nd : ss.Nodup) (hl : ss.length ≤ 1000) :
    callF P (n + 1) 20 [.s (.tup xs), .s (.fn f)] h = .ok (.s .non) h := by
  refine eq_W (t := fx) (call_W (H.df 20 (by decide) rfl) rfl ?_)
  rw [p_first_bad]
  have hz : ∀ i, ((ss.take i).map T.str).length + 1 ≤ 16777216 := fun i => by rw [List.length_map, List.length_take]; omega
  simp only [↓evd, evu, evl, Nat.reduceAdd, Nat.reduceSub, Nat.reduceLeDiff, Nat.reduceEqDiff, Nat.zero_le, Nat.le_refl, Nat.zero_add, Nat.add_zero, Int.reduceEq, Int.reduceLE, Int.reduceLT, Int.reduceAdd, Int.reduceSub, Int.reduceMul, Int.reduceNeg, Int.cast_ofNat_Int, Int.natCast_add, Int.natCast_zero, Int.natCast_one, ls_1, lo_s, bf_1, no_s]
  refine for_atW (fun i s hh => hh = h ∧ ∃ s3 s4, s = [some (.s (.tup xs)), some (.s (.fn f)), some (.tl ((ss.take i).map T.str)), s3, s4]) (fun _ _ _ _ => rfl) ⟨rfl, none, none, rfl⟩ ?_ ?_
  · rintro i x hi _ _ ⟨rfl, s3, s4, rfl⟩
    obtain ⟨y, ey, rfl⟩ := enm_get xs 0 i x hi
    have my := List.mem_of_getElem? ey
    obtain ⟨a, r, rfl⟩ := hs y my
    have hy := hf _ (okVs_mem hx my)
    rw [List.all_eq_true.mp hp _ my] at hy
    have ea : ss[i]? = some a := by
      have e := congrArg (fun l => l[i]?) hn
      simp only [List.getElem?_map, ey, Option.map_some, fstT] at e
      cases q : ss[i]? with
      | none => rw [q] at e; cases e
      | some b => rw [q] at e; simp at e; rw [e]
    have ni : a ∉ ss.take i := by
      intro m
      obtain ⟨j, hj, ej⟩ := List.getElem_of_mem m
      rw [List.length_take] at hj
      have li := (List.getElem?_eq_some_iff.mp ea).1
      have := List.pairwise_iff_getElem.mp nd j i (by omega) li (by omega)
      rw [List.getElem_take] at ej
      rw [(List.getElem?_eq_some_iff.mp ea).2] at this
      exact this ej
    rw [forB_k (by simp only [b_t, bs_1, bs_0]; rfl)]
    have e1 : (ss.take i).map T.str ++ [T.str a] = (ss.take (i + 1)).map T.str := by
      rw [List.take_succ, ea]; simp
    have lt : ((ss.take i).map T.str).length + 1 ≤ 16777216 := hz i
    simp only [↓evd, evu, evl, Nat.reduceAdd, Nat.reduceSub, Nat.reduceLeDiff, Nat.reduceEqDiff, Nat.zero_le, Nat.le_refl, Nat.zero_add, Nat.add_zero, Int.reduceEq, Int.reduceLE, Int.reduceLT, Int.reduceAdd, Int.reduceSub, Int.reduceMul, Int.reduceNeg, Int.cast_ofNat_Int, Int.natCast_add, Int.natCast_zero, Int.natCast_one, fn_s, hy, in_strs, ni, plIs, chg, fApp, lt, if_true, e1]
    exact N_nx.mpr ⟨rfl, _, _, rfl⟩
  · rintro _ _ ⟨rfl, s3, s4, rfl⟩
    simp only [↓evd, evu, evl, Nat.reduceAdd, Nat.reduceSub, Nat.reduceLeDiff, Nat.reduceEqDiff, Nat.zero_le, Nat.le_refl, Nat.zero_add, Nat.add_zero, Int.reduceEq, Int.reduceLE, Int.reduceLT, Int.reduceAdd, Int.reduceSub, Int.reduceMul, Int.reduceNeg, Int.cast_ofNat_Int, Int.natCast_add, Int.natCast_zero, Int.natCast_one]
    exact W_ok.mpr ⟨rfl, rfl⟩
end
end Rm
set_option Elab.async false
set_option linter.all false
set_option autoImplicit false
set_option maxRecDepth 100000
namespace Rm
open Kp
/-- an act's fields -/
structure ActOk (fs : List T) : Prop where
  len : fs.length = 7
  fld : ∀ (i : Nat) (x : T), fs[i]? = some x → fieldB (i : Int) x = true
/-- things of a roll: such, called unlike -/
structure ThsOk (p : T → Bool) (xs : List T) : Prop where
  all : xs.all p = true
  nms : ∃ ns : List (List Nat), xs.map fstT = ns.map T.str ∧ ns.Nodup
structure RollOk (fs hs ss : List T) : Prop where
  act : ActOk fs
  hou : ThsOk houseB hs
  hl : hs.length ≤ 8
  str : ThsOk stretchB ss
  sl : ss.length ≤ 6
abbrev rollT (fs hs ss : List T) : T := .tup [.tup fs, .tup hs, .tup ss]
theorem house_str {x : T} (h : houseB x = true) : ∃ a r, x = .tup (.str a :: r) := by
  unfold houseB at h
  split at h
  · rename_i a b c d
    simp only [Bool.and_eq_true] at h
    have := h.1.1.1
    cases a <;> simp [nmT] at this
    exact ⟨_, _, rfl⟩
  · cases h
theorem stretch_str {x : T} (h : stretchB x = true) : ∃ a r, x = .tup (.str a :: r) := by
  unfold stretchB at h
  split at h
  · rename_i a b c d
    simp only [Bool.and_eq_true] at h
    have := h.1.1.1
    cases a <;> simp [nmT] at this
    exact ⟨_, _, rfl⟩
  · cases h
section
variable {P : Pg} {n : Nat} {h : LH}
theorem act_ok (H : HasRoll P) (fs : List T) (o : ActOk fs) (ht : okVs h fs = true) : callF P (n + 6) 19 [.s (.tup fs)] h = .ok (.s .non) h := by
  refine eq_W (t := fx) (call_W (H.df 19 (by decide) rfl) rfl ?_)
  rw [p_need_act]
  have tf := tupof_ok (h := h) (n := n + 4) (H.df 3 (by decide) rfl) (.tup fs) 7 rfl
  rw [show tuB (.tup fs) 7 = true from decide_eq_true (by rw [o.len]; rfl)] at tf
  have g := H.gl 16 (by decide) (t := .int 7) rfl
  simp only [↓evd, evu, evl, Nat.reduceAdd, Nat.reduceSub, Nat.reduceLeDiff, Nat.reduceEqDiff, Nat.zero_le, Nat.le_refl, Nat.zero_add, Nat.add_zero, Int.reduceEq, Int.reduceLE, Int.reduceLT, Int.reduceAdd, Int.reduceSub, Int.reduceMul, Int.reduceNeg, Int.cast_ofNat_Int, Int.natCast_add, Int.natCast_zero, Int.natCast_one, g, tf, ls_1, lo_s, bf_1, no_s]
  refine for_atW (fun i s hh => hh = h ∧ ∃ s1 s2, s = [some (.s (.tup fs)), s1, s2]) (fun _ _ _ _ => rfl) ⟨rfl, none, none, rfl⟩ ?_ ?_
  · rintro i x hi _ _ ⟨rfl, s1, s2, rfl⟩
    obtain ⟨y, ey, rfl⟩ := enm_get fs 0 i x hi
    have fy := field_ok (n := n) H (i : Int) y (okVs_mem ht (List.mem_of_getElem? ey))
    rw [o.fld i y ey] at fy
    rw [forB_k (by simp only [b_t, bs_1, bs_0]; rfl)]
    simp only [↓evd, evu, evl, Nat.reduceAdd, Nat.reduceSub, Nat.reduceLeDiff, Nat.reduceEqDiff, Nat.zero_le, Nat.le_refl, Nat.zero_add, Nat.add_zero, Int.reduceEq, Int.reduceLE, Int.reduceLT, Int.reduceAdd, Int.reduceSub, Int.reduceMul, Int.reduceNeg, Int.cast_ofNat_Int, Int.natCast_add, Int.natCast_zero, Int.natCast_one, fy]
    exact N_nx.mpr ⟨rfl, _, _, rfl⟩
  · rintro _ _ ⟨rfl, s1, s2, rfl⟩
    simp only [↓evd, evu, evl, Nat.reduceAdd, Nat.reduceSub, Nat.reduceLeDiff, Nat.reduceEqDiff, Nat.zero_le, Nat.le_refl, Nat.zero_add, Nat.add_zero, Int.reduceEq, Int.reduceLE, Int.reduceLT, Int.reduceAdd, Int.reduceSub, Int.reduceMul, Int.reduceNeg, Int.cast_ofNat_Int, Int.natCast_add, Int.natCast_zero, Int.natCast_one]
    exact W_ok.mpr ⟨rfl, rfl⟩
theorem isn_non (t : T) (h : LH) : cmpD .isn (.s t) (.s .non) h = some (!decide (D.s t = D.s .non)) := rfl
theorem roll_ok (H : HasRoll P) (fs hs ss : List T) (o : RollOk fs hs ss) (h1 : okVs h fs = true) (h2 : okVs h hs = true) (h3 : okVs h ss = true) : callF P (n + 7) 25 [.s (rollT fs hs ss)] h = .ok (.s (rollT fs hs ss)) h := by
  rw [call_eq (H.df 25 (by decide) rfl) rfl, p_need_roll]
  have tf := tupof_ok (h := h) (n := n + 5) (H.df 3 (by decide) rfl) (rollT fs hs ss) 3 rfl
  rw [show tuB (rollT fs hs ss) 3 = true from rfl] at tf
  have g1 := H.gl 26 (by decide) (t := .int 8) rfl
  have g2 := H.gl 25 (by decide) (t := .int 6) rfl
  have c1 : ¬ (8 < (hs.length : Int)) := by have := o.hl; omega
  have c2 : ¬ (6 < (ss.length : Int)) := by have := o.sl; omega
  have fa := act_ok (n := n) H fs o.act h1
  obtain ⟨n1, e1, d1⟩ := o.hou.nms
  obtain ⟨n2, e2, d2⟩ := o.str.nms
  have l1 : n1.length = hs.length := by have := congrArg List.length e1; simpa using this.symm
  have l2 : n2.length = ss.length := by have := congrArg List.length e2; simpa using this.symm
  have fh := first_ok (n := n + 5) H (fun x hx => house_ok (n := n) H x hx) n1 hs h2 o.hou.all (fun x hx => house_str (List.all_eq_true.mp o.hou.all x hx)) e1 d1 (by have := o.hl; omega)
  have fs' := first_ok (n := n + 5) H (fun x hx => stretch_ok (n := n + 1) H x hx) n2 ss h3 o.str.all (fun x hx => stretch_str (List.all_eq_true.mp o.str.all x hx)) e2 d2 (by have := o.sl; omega)
  simp only [↓evd, evu, evl, Nat.reduceAdd, Nat.reduceSub, Nat.reduceLeDiff, Nat.reduceEqDiff, Nat.zero_le, Nat.le_refl, Nat.zero_add, Nat.add_zero, Int.reduceEq, Int.reduceLE, Int.reduceLT, Int.reduceAdd, Int.reduceSub, Int.reduceMul, Int.reduceNeg, Int.cast_ofNat_Int, Int.natCast_add, Int.natCast_zero, Int.natCast_one, tf, lcK]
  rw [lc_map (g := fun t => .bl (isTupB t)) rfl]
  rotate_left
  · intro x hx
    rw [lcB_k rfl]
    simp only [List.mem_cons, List.not_mem_nil, or_false] at hx
    rcases hx with rfl | rfl | rfl <;> rfl
  simp only [↓evd, evu, evl, Nat.reduceAdd, Nat.reduceSub, Nat.reduceLeDiff, Nat.reduceEqDiff, Nat.zero_le, Nat.le_refl, Nat.zero_add, Nat.add_zero, Int.reduceEq, Int.reduceLE, Int.reduceLT, Int.reduceAdd, Int.reduceSub, Int.reduceMul, Int.reduceNeg, Int.cast_ofNat_Int, Int.natCast_add, Int.natCast_zero, Int.natCast_one, List.nil_append, bi_all, List.all_cons, List.all_nil, isTupB, unpOf, g1, g2, c1, c2, fa, fh, fs', H.df 21 (by decide) rfl, H.df 22 (by decide) rfl, Option.isSome, isn_non]
end
end Rm
set_option Elab.async false
set_option linter.all false
set_option autoImplicit false
set_option maxRecDepth 100000
/-! what all draws use -/
namespace Rm
theorem ix_ref {h : LH} {n : Nat} {kvs : List (T × T)} (hd : h[n]? = some (.dct false kvs)) (w : List Nat) : ixD (.s (.ref n)) (.s (.str w)) h = (lookT (.str w) kvs).map .s := by
  simp [ixD, dctOf, hd, keyOk, keyB]
theorem ix_rl {h : LH} {n : Nat} {xs : List T} (hd : h[n]? = some (.lst xs)) (i : Int) : ixD (.s (.ref n)) (.s (.int i)) h = (atT xs i).map .s := by
  simp [ixD, dctOf, hd, seqOf, lstOf]
theorem len_rl {h : LH} {n : Nat} {xs : List T} (hd : h[n]? = some (.lst xs)) : biLen h (.s (.ref n)) = some (.s (.int xs.length)) := by
  simp [biLen, dctOf, hd, seqOf, lstOf]
theorem ixN_nat {n j : Nat} (hj : j < n) : L2.ixN n (j : Int) = some j := by
  unfold L2.ixN
  rw [if_pos (by omega), if_pos (by omega)]
  simp
theorem at0 {α : Type} (x : α) (xs : List α) : atT (x :: xs) 0 = some x := L2.atI_nat (j := 0) rfl
theorem at_map {xs : List Int} {j : Nat} (l : j < xs.length) : atT (xs.map T.int) (j : Int) = some (.int xs[j]) := by
  refine L2.atI_nat ?_
  simp [l]
theorem at_mem {α : Type} {xs : List α} {v : Int} (h0 : 0 ≤ v) (h1 : v < xs.length) : ∃ x, atT xs v = some x ∧ x ∈ xs := by
  have l : v.toNat < xs.length := by omega
  refine ⟨xs[v.toNat], ?_, List.getElem_mem l⟩
  have := L2.atI_nat (xs := xs) (j := v.toNat) (v := xs[v.toNat]) (by simp [l])
  rwa [show ((v.toNat : Nat) : Int) = v by omega] at this
theorem let_low : ∀ c ∈ LET, lowB c = true := by decide +kernel
theorem let_at {v : Int} (h0 : 0 ≤ v) (h1 : v < 26) : ∃ c, atT LET v = some c ∧ lowB c = true := by
  obtain ⟨c, e, m⟩ := at_mem (xs := LET) h0 h1
  exact ⟨c, e, let_low c m⟩
/-- signs, each a letter -/
def Sgl (t : T) : Prop := ∃ c, t = .str [c] ∧ lowB c = true
theorem join_low : ∀ {ts : List T}, (∀ t ∈ ts, Sgl t) → ∃ cs : List Nat, strsOf ts = some (cs.map fun c => [c]) ∧ cs.length = ts.length ∧ cs.all lowB = true
  | [], _ => ⟨[], rfl, rfl, rfl⟩
  | t :: ts, h => by
    obtain ⟨c, rfl, lc⟩ := h t (List.mem_cons_self ..)
    obtain ⟨cs, e, l, a⟩ := join_low fun u hu => h u (List.mem_cons_of_mem _ hu)
    exact ⟨c :: cs, by simp [strsOf, e], by simp [l], by simp [lc, a]⟩
theorem joinC_sg : ∀ cs : List Nat, joinC [] (cs.map fun c => [c]) = cs
  | [] => rfl
  | [c] => rfl
  | c :: d :: cs => by
    have := joinC_sg (d :: cs)
    simp only [List.map_cons] at this
    simp only [List.map_cons, joinC, this]
    simp
theorem sum_sg : ∀ cs : List Nat, ((cs.map fun c => [c]).map List.length).sum = cs.length
  | [] => rfl
  | c :: cs => by
    have := sum_sg cs
    simp only [List.map_cons, List.sum_cons, this, List.length_cons, List.length_nil]; omega
theorem join_ok {ts : List T} {d : D} {h : LH} (hd : lstOf d h = some ts) (h1 : ∀ t ∈ ts, Sgl t) (hl : ts.length ≤ 100) : ∃ cs : List Nat, meD .join (.s (.str [])) [d] h = some (.s (.str cs)) ∧ cs.length = ts.length ∧ cs.all lowB = true := by
  obtain ⟨cs, e, l, a⟩ := join_low h1
  refine ⟨cs, ?_, l, a⟩
  show meJoin h (.s (.str [])) [d] = _
  have sz : sizeOk (((cs.map fun c => [c]).map List.length).sum + (cs.map fun c => [c]).length * ([] : List Nat).length) = true := by
    rw [sum_sg]; simp [sizeOk]; omega
  simp only [meJoin, hd, e, sz, if_true, joinC_sg]
theorem nm_of {s : List Nat} (a : s.all lowB = true) (l0 : 1 ≤ s.length) (l1 : s.length ≤ 8) : nmT (.str s) = true := by
  simp only [nmT, a, decide_eq_true l0, decide_eq_true l1, Bool.and_self]
theorem rng_le {v : Int} (h0 : 0 ≤ v) (h1 : v < 1000) : rngD [.s (.int v)] = some (rngT 0 v.toNat) := by
  have e1 : decide (v ≤ 16777216) = true := decide_eq_true (by omega)
  have e2 : decide (-(2 ^ 62) ≤ v) = true := decide_eq_true (by omega)
  simp only [rngD, e1, e2, Bool.and_self, if_true]
theorem rng_len (a : Int) (n : Nat) : (rngT a n).length = n := by simp [rngT]
theorem rng_mem {a : Int} {n : Nat} {t : T} (h : t ∈ rngT a n) : ∃ i : Int, t = .int i ∧ a ≤ i ∧ i < a + n := by
  simp only [rngT, List.mem_map, List.mem_range] at h
  obtain ⟨k, hk, rfl⟩ := h
  exact ⟨_, rfl, by omega, by omega⟩
theorem cut_take (cs : List Nat) (i : Int) (h0 : 0 ≤ i) : cutT cs none (some i) = cs.take i.toNat := by
  have : ¬ i < 0 := by omega
  simp only [cutT, HT.sIx, this, if_false, List.drop_zero, Nat.sub_zero]
  rw [List.take_eq_take_iff]
  omega
theorem b_ss (a b : List Nat) (h : LH) : binD .add (.s (.str a)) (.s (.str b)) h = if sizeOk (a.length + b.length) then some (.s (.str (a ++ b))) else none := rfl
theorem own_app (i : Nat) (xs : List T) (t : T) (s : Sg) (h : LH) (e : s[i]? = some (some (.tl xs))) (l : xs.length < 1000) : chg (.own i) s h (fApp t) = .nx (s.set i (some (.tl (xs ++ [t])))) h := by
  have sz : sizeOk (xs.length + 1) = true := decide_eq_true (by omega)
  simp only [chg, e, fApp, sz, if_true]
theorem me_s (z : List Nat) (h : LH) : meRecv .split (.s (.str z)) h = true := rfl
theorem me_j (z : List Nat) (h : LH) : meRecv .join (.s (.str z)) h = true := rfl
end Rm
set_option Elab.async false
set_option linter.all false
set_option autoImplicit false
set_option maxRecDepth 100000
/-! texts: numbers, joins, splits -/
namespace Rm
open PySem
/-! ### joins and splits -/
theorem jn_app (a b : Str) : (a ++ b).cps.toList = a.cps.toList ++ b.cps.toList := by
  show (Str.append a b).cps.toList = _
  unfold Str.append
  simp
theorem jn_list (c : Nat) : ∀ ss : List Str, (Str.join ⟨#[c]⟩ ss).cps.toList = joinC [c] (ss.map fun z => z.cps.toList)
  | [] => rfl
  | [x] => rfl
  | x :: y :: r => by
    show (x ++ ⟨#[c]⟩ ++ Str.join ⟨#[c]⟩ (y :: r)).cps.toList = _
    rw [jn_app, jn_app, jn_list c (y :: r)]
    rfl
theorem app_c {c : Nat} : ∀ {a b x y : List Nat}, c ∉ a → c ∉ b → a ++ c :: x = b ++ c :: y → a = b ∧ x = y
  | [], [], x, y, _, _, e => ⟨rfl, by injection e⟩
  | [], b :: bs, x, y, _, h, e => by
    injection e with e1 e2
    exact absurd (by rw [e1]; exact List.mem_cons_self ..) h
  | a :: as, [], x, y, h, _, e => by
    injection e with e1 e2
    exact absurd (by rw [← e1]; exact List.mem_cons_self ..) h
  | a :: as, b :: bs, x, y, h, h', e => by
    injection e with e1 e2
    have := app_c (fun m => h (List.mem_cons_of_mem _ m)) (fun m => h' (List.mem_cons_of_mem _ m)) e2
    exact ⟨by rw [e1, this.1], this.2⟩
theorem jn_inj (c : Nat) : ∀ as bs : List (List Nat), as ≠ [] → bs ≠ [] → (∀ a ∈ as, c ∉ a) → (∀ b ∈ bs, c ∉ b) → joinC [c] as = joinC [c] bs → as = bs
  | [], _, h, _, _, _, _ => absurd rfl h
  | _ :: _, [], _, h, _, _, _ => absurd rfl h
  | [a], [b], _, _, _, _, e => by rw [show a = b from e]
  | [a], b :: b' :: r, _, _, ha, _, e => by
    have e : a = b ++ [c] ++ joinC [c] (b' :: r) := e
    exact absurd (by rw [e]; simp) (ha a (List.mem_cons_self ..))
  | a :: a' :: r, [b], _, _, _, hb, e => by
    have e : a ++ [c] ++ joinC [c] (a' :: r) = b := e
    exact absurd (by rw [← e]; simp) (hb b (List.mem_cons_self ..))
  | a :: a' :: r, b :: b' :: q, _, _, ha, hb, e => by
    have e : a ++ [c] ++ joinC [c] (a' :: r) = b ++ [c] ++ joinC [c] (b' :: q) := e
    rw [List.append_assoc, List.append_assoc] at e
    have z := app_c (ha a (List.mem_cons_self ..)) (hb b (List.mem_cons_self ..)) e
    have ih := jn_inj c (a' :: r) (b' :: q) (by simp) (by simp) (fun x hx => ha x (List.mem_cons_of_mem _ hx)) (fun x hx => hb x (List.mem_cons_of_mem _ hx)) z.2
    rw [z.1, ih]
theorem jn_split (c : Nat) (ws : List (List Nat)) (h1 : ws ≠ []) (hf : ∀ w ∈ ws, c ∉ w) : (Txt.split ⟨(joinC [c] ws).toArray⟩ ⟨#[c]⟩).map (fun z => z.cps.toList) = ws := by
  have j := congrArg (fun z => z.cps.toList) (StrLaws.join_split ⟨(joinC [c] ws).toArray⟩ ⟨#[c]⟩)
  simp only [jn_list] at j
  have f := StrLaws.split_free ⟨(joinC [c] ws).toArray⟩ c
  have p := PyProof.Rows.split_pos ⟨(joinC [c] ws).toArray⟩ ⟨#[c]⟩
  refine jn_inj c _ _ ?_ h1 ?_ hf j
  · intro z
    rw [List.map_eq_nil_iff.mp z] at p
    exact absurd p (by decide)
  · intro a ha
    obtain ⟨z, hz, rfl⟩ := List.mem_map.mp ha
    exact f z hz
theorem jn_le {c : Nat} : ∀ {ws : List (List Nat)} {w : List Nat}, w ∈ ws → w.length ≤ (joinC [c] ws).length
  | [], _, h => nomatch h
  | [a], w, h => by rw [List.mem_singleton.mp h]; exact Nat.le_refl _
  | a :: b :: r, w, h => by
    have e : joinC [c] (a :: b :: r) = a ++ [c] ++ joinC [c] (b :: r) := rfl
    rw [e]
    simp only [List.length_append, List.length_cons, List.length_nil]
    rcases List.mem_cons.mp h with rfl | h
    · omega
    · have := jn_le (c := c) h
      omega
theorem jn_len (c : Nat) : ∀ (ws : List (List Nat)), (joinC [c] ws).length ≤ (ws.map List.length).sum + ws.length
  | [] => by simp [joinC]
  | [x] => by simp [joinC]
  | x :: y :: r => by
    have ih := jn_len c (y :: r)
    have e : joinC [c] (x :: y :: r) = x ++ [c] ++ joinC [c] (y :: r) := rfl
    rw [e]
    simp only [List.length_append, List.map_cons, List.sum_cons, List.length_cons, List.length_nil] at *
    omega
theorem sum_le {B : Nat} : ∀ {ws : List (List Nat)}, (∀ w ∈ ws, w.length ≤ B) → (ws.map List.length).sum ≤ ws.length * B
  | [], _ => by simp
  | w :: ws, h => by
    have := sum_le fun x hx => h x (List.mem_cons_of_mem _ hx)
    have := h w (List.mem_cons_self ..)
    simp only [List.map_cons, List.sum_cons, List.length_cons, Nat.succ_mul]
    omega
theorem jn_bd {c B : Nat} {ws : List (List Nat)} (h : ∀ w ∈ ws, w.length ≤ B) : (joinC [c] ws).length ≤ ws.length * (B + 1) := by
  have := jn_len c ws
  have := sum_le h
  rw [Nat.mul_succ]
  omega
theorem me_split (c : Nat) (ws : List (List Nat)) (h : LH) (h1 : ws ≠ []) (hf : ∀ w ∈ ws, c ∉ w) (hz : (joinC [c] ws).length ≤ 1000000) : meD .split (.s (.str (joinC [c] ws))) [.s (.str [c])] h = some (.tl (ws.map T.str)) := by
  have e := jn_split c ws h1 hf
  have s1 : sizeOk ((joinC [c] ws).length + 2) = true := decide_eq_true (by omega)
  have s2 : ((Txt.split ⟨(joinC [c] ws).toArray⟩ ⟨#[c]⟩).all fun z => sizeOk z.length) = true := by
    rw [List.all_eq_true]
    intro z hz'
    have m : z.cps.toList ∈ ws := by rw [← e]; exact List.mem_map.mpr ⟨z, hz', rfl⟩
    have l := jn_le (c := c) m
    refine decide_eq_true ?_
    rw [show z.length = z.cps.toList.length by simp [Str.length]]
    omega
  show meSplit (.s (.str (joinC [c] ws))) [.s (.str [c])] = _
  simp only [meSplit, s1, s2, Bool.and_self, if_true]
  congr 2
  have := congrArg (List.map T.str) e
  rwa [List.map_map] at this
theorem str_of : ∀ ws : List (List Nat), strsOf (ws.map T.str) = some ws
  | [] => rfl
  | w :: ws => by simp [strsOf, str_of ws]
theorem me_join {c B : Nat} {ws : List (List Nat)} {d : D} {h : LH} (e : lstOf d h = some (ws.map T.str)) (hB : ∀ w ∈ ws, w.length ≤ B) (hl : ws.length * (B + 1) ≤ 1000000) : meD .join (.s (.str [c])) [d] h = some (.s (.str (joinC [c] ws))) := by
  have s := sum_le hB
  rw [Nat.mul_succ] at hl
  have sz : sizeOk ((ws.map List.length).sum + ws.length * [c].length) = true := decide_eq_true (by simp only [List.length_cons, List.length_nil]; omega)
  show meJoin h (.s (.str [c])) [d] = _
  simp only [meJoin, e, str_of, sz, if_true]
/-! ### numbers -/
def NumT (t : T) : Prop := ∃ n : Nat, t = .int n ∧ n < 1000
theorem num_am {t : T} {lo hi : Int} (a : amT t lo hi = true) (h0 : 0 ≤ lo) (h1 : hi ≤ 999) : NumT t := by
  obtain ⟨i, rfl, l, u⟩ := am_inv a
  exact ⟨i.toNat, by rw [show ((i.toNat : Nat) : Int) = i by omega], by omega⟩
theorem txt_num (n : Nat) : txtI (n : Int) = TL.numL n := TL.tl_num n
def strT : T → List Nat
  | .int i => txtI i
  | .str s => s
  | _ => []
theorem num_free {t : T} (h : NumT t) {c : Nat} (hc : c < 48 ∨ 57 < c) : c ∉ strT t := by
  obtain ⟨n, rfl, _⟩ := h
  show c ∉ txtI _
  rw [txt_num]; exact TL.numL_free hc
theorem num_len {t : T} (h : NumT t) : (strT t).length ≤ 3 := by
  obtain ⟨n, rfl, l⟩ := h
  show (txtI _).length ≤ 3
  rw [txt_num]; exact TL.numL_len (by decide) l
theorem num_str {t : T} (h : NumT t) (hh : LH) : biD .str [.s t] hh = some (.s (.str (strT t))) := by
  have l3 := num_len h
  obtain ⟨n, rfl, l⟩ := h
  have a : decide ((n : Int).natAbs.log2 < 1920) = true := by
    refine decide_eq_true ?_
    rw [Int.natAbs_natCast]
    rcases Nat.eq_zero_or_pos n with rfl | p
    · decide
    · have : n.log2 < 10 := (Nat.log2_lt (by omega)).mpr (by omega)
      omega
  have b : sizeOk (txtI (n : Int)).length = true := decide_eq_true (by change (txtI (n : Int)).length ≤ 3 at l3; omega)
  show biStr (.s (.int n)) = _
  simp only [biStr, a, b, Bool.and_self, if_true]
  rfl
theorem num_int (n : Nat) (l : n < 1000) (h : LH) : biD .int [.s (.str (txtI (n : Int)))] h = some (.s (.int n)) := by
  have l3 : (txtI (n : Int)).length ≤ 3 := num_len ⟨n, rfl, l⟩
  have e : intText? ⟨(txtI (n : Int)).toArray⟩ = some (n : Int) := by
    have := TL.int_num (n := n) (by have := TL.numL_len (n := n) (k := 3) (by decide) l; omega)
    simpa [txtI] using this
  have b : decide ((txtI (n : Int)).length ≤ 640) = true := decide_eq_true (by omega)
  show biInt (.s (.str (txtI n))) = _
  simp only [biInt, b, if_true, e]
  rfl
theorem num_head : ∀ n < 1000, ∃ c r, TL.numL n = c :: r ∧ (c = 48 → r = []) := by
  intro n hn
  by_cases h1 : n < 10
  · rw [TL.numL_lt h1]; exact ⟨_, _, rfl, fun _ => rfl⟩
  · have e1 := TL.numL_step (n := n) (by omega)
    by_cases h2 : n < 100
    · rw [e1, TL.numL_lt (n := n / 10) (by omega)]
      exact ⟨_, _, rfl, fun h => by omega⟩
    · rw [e1, TL.numL_step (n := n / 10) (by omega), TL.numL_lt (n := n / 10 / 10) (by omega)]
      exact ⟨_, _, rfl, fun h => by omega⟩
end Rm
set_option Elab.async false
set_option linter.all false
set_option autoImplicit false
set_option maxRecDepth 100000
/-! the program's words: joined, number_in, numbers_in, table_in -/
namespace Rm
open Kp
def txtF : List Nat := [30, 39, 31, 32, 33, 34, 36, 37, 35, 38]
def txtG : List Nat := [28, 29, 27, 26, 25, 16]
abbrev HasTxt (P : Pg) : Prop := Has P txtF txtG
def colT : T → List Nat
  | .tup xs => joinC [58] (xs.map strT)
  | _ => []
def tabW : T → List (List Nat)
  | .tup xs => xs.map colT
  | _ => []
def RowN (t : T) : Prop := ∃ xs, t = .tup xs ∧ xs ≠ [] ∧ xs.length ≤ 3 ∧ ∀ x ∈ xs, NumT x
def TabN (t : T) : Prop := ∃ rs, t = .tup rs ∧ rs.length ≤ 10 ∧ ∀ r ∈ rs, RowN r
theorem map_str (xs : List T) : (xs.map fun t => T.str (strT t)) = (xs.map strT).map T.str := by rw [List.map_map]; rfl
theorem jn_mem {c : Nat} : ∀ {ws : List (List Nat)} {x : Nat}, x ∈ joinC [c] ws → x = c ∨ ∃ w ∈ ws, x ∈ w
  | [], _, h => nomatch h
  | [a], x, h => Or.inr ⟨a, List.mem_cons_self .., h⟩
  | a :: b :: r, x, h => by
    have e : joinC [c] (a :: b :: r) = a ++ [c] ++ joinC [c] (b :: r) := rfl
    rw [e, List.append_assoc] at h
    rcases List.mem_append.mp h with h | h
    · exact Or.inr ⟨a, List.mem_cons_self .., h⟩
    · rcases List.mem_append.mp h with h | h
      · exact Or.inl (List.mem_singleton.mp h)
      · rcases jn_mem h with h | ⟨w, hw, hx⟩
        · exact Or.inl h
        · exact Or.inr ⟨w, List.mem_cons_of_mem _ hw, hx⟩
theorem row_len {t : T} (r : RowN t) : (colT t).length ≤ 12 := by
  obtain ⟨xs, rfl, _, l, nx⟩ := r
  have := jn_bd (c := 58) (B := 3) (ws := xs.map strT) (fun w hw => by obtain ⟨x, hx, rfl⟩ := List.mem_map.mp hw; exact num_len (nx x hx))
  rw [List.length_map] at this
  show (joinC [58] (xs.map strT)).length ≤ 12
  omega
theorem row_free {t : T} (r : RowN t) {c : Nat} (hc : c < 48) : c ∉ colT t := by
  obtain ⟨xs, rfl, _, l, nx⟩ := r
  intro h
  rcases jn_mem (show c ∈ joinC [58] (xs.map strT) from h) with h | ⟨w, hw, h⟩
  · omega
  · obtain ⟨x, hx, rfl⟩ := List.mem_map.mp hw
    exact num_free (nx x hx) (Or.inl hc) h
section
variable {P : Pg} {n : Nat} {h : LH}
theorem joined_ok {f : Nat} (e : P.df f = some p_joined) (t : T) (r : RowN t) : callF P (n + 1) f [.s t] h = .ok (.s (.str (colT t))) h := by
  obtain ⟨xs, rfl, _, l, nx⟩ := r
  rw [call_eq e rfl, p_joined]
  simp only [↓evd, evu, evl, Nat.reduceAdd, Nat.reduceSub, Nat.reduceLeDiff, Nat.reduceEqDiff, Nat.zero_le, Nat.le_refl, Nat.zero_add, Nat.add_zero, Int.reduceEq, Int.reduceLE, Int.reduceLT, Int.reduceAdd, Int.reduceSub, Int.reduceMul, Int.reduceNeg, Int.cast_ofNat_Int, Int.natCast_add, Int.natCast_zero, Int.natCast_one, lcK, me_j]
  rw [lc_map (g := fun t => .str (strT t)) rfl]
  rotate_left
  · intro x hx
    rw [lcB_k rfl]
    simp only [↓evd, evu, evl, Nat.reduceAdd, Nat.reduceSub, Nat.reduceLeDiff, Nat.reduceEqDiff, Nat.zero_le, Nat.le_refl, Nat.zero_add, Nat.add_zero, Int.reduceEq, Int.reduceLE, Int.reduceLT, Int.reduceAdd, Int.reduceSub, Int.reduceMul, Int.reduceNeg, Int.cast_ofNat_Int, Int.natCast_add, Int.natCast_zero, Int.natCast_one, num_str (nx x hx)]
  rw [List.nil_append, map_str]
  have mj := me_join (c := 58) (B := 3) (ws := xs.map strT) (d := .tl ((xs.map strT).map T.str)) (h := h) rfl (fun w hw => by obtain ⟨x, hx, rfl⟩ := List.mem_map.mp hw; exact num_len (nx x hx)) (by rw [List.length_map]; omega)
  simp only [↓evd, evu, evl, Nat.reduceAdd, Nat.reduceSub, Nat.reduceLeDiff, Nat.reduceEqDiff, Nat.zero_le, Nat.le_refl, Nat.zero_add, Nat.add_zero, Int.reduceEq, Int.reduceLE, Int.reduceLT, Int.reduceAdd, Int.reduceSub, Int.reduceMul, Int.reduceNeg, Int.cast_ofNat_Int, Int.natCast_add, Int.natCast_zero, Int.natCast_one, mj]
  rfl
abbrev DIG : List Nat := [48, 49, 50, 51, 52, 53, 54, 55, 56, 57]
def digB (c : Nat) : Bool := decide (c ∈ DIG)
theorem dig_in (c : Nat) (h : LH) : inD (.s (.str [c])) (.s (.str DIG)) h = some (digB c) := by
  have := PySem.StrLaws.found_one ⟨DIG.toArray⟩ c
  simp only [inD]
  exact congrArg some this
theorem dig_all (m : Nat) : (TL.numL m).all digB = true := by
  rw [List.all_eq_true]
  intro c hc
  have r := TL.numL_digits m c hc
  have : c = 48 ∨ c = 49 ∨ c = 50 ∨ c = 51 ∨ c = 52 ∨ c = 53 ∨ c = 54 ∨ c = 55 ∨ c = 56 ∨ c = 57 := by
    have := r.1; have := r.2; omega
  simp only [digB, decide_eq_true_eq, List.mem_cons, List.not_mem_nil, or_false]
  exact this
theorem number_ok (H : HasTxt P) (m : Nat) (l : m < 1000) : callF P (n + 1) 31 [.s (.str (txtI m))] h = .ok (.s (.int m)) h := by
  have ti := num_int m l h
  have l3 : (txtI (m : Int)).length ≤ 3 := num_len ⟨m, rfl, l⟩
  have dg := dig_all m
  obtain ⟨c, r, e, hz⟩ := num_head m l
  rw [← txt_num] at e dg
  rw [e] at ti l3 dg
  rw [call_eq (H.df 31 (by decide) rfl) rfl, p_number_in, e]
  have g1 := H.gl 28 (by decide) (t := .str DIG) rfl
  have g2 := H.gl 29 (by decide) (t := .int 3) rfl
  have k1 : (1 : Int) ≤ ((c :: r).length : Nat) := by simp only [List.length_cons]; omega
  have k2 : (((c :: r).length : Nat) : Int) ≤ 3 := by omega
  have ba : biD .all [.tl (List.map (fun t => T.bl (match t with | .str [c] => digB c | _ => false)) (List.map (fun c => T.str [c]) (c :: r)))] h = some (.s (.bl true)) := by
    rw [bi_all, List.all_map]
    simp only [Function.comp_def]
    rw [dg]
  have ix0 : ixD (.s (.str (c :: r))) (.s (.int 0)) h = some (.s (.str [c])) := by simp [ixD, at0]
  generalize hw : c :: r = w at *
  simp only [↓evd, evu, evl, Nat.reduceAdd, Nat.reduceSub, Nat.reduceLeDiff, Nat.reduceEqDiff, Nat.zero_le, Nat.le_refl, Nat.zero_add, Nat.add_zero, Int.reduceEq, Int.reduceLE, Int.reduceLT, Int.reduceAdd, Int.reduceSub, Int.reduceMul, Int.reduceNeg, Int.cast_ofNat_Int, Int.natCast_add, Int.natCast_zero, Int.natCast_one, g1, g2, k1, k2, lcK]
  rw [lc_map (g := fun t => .bl (match t with | .str [c] => digB c | _ => false)) rfl]
  rotate_left
  · intro x hx
    obtain ⟨c, hc, rfl⟩ := List.mem_map.mp hx
    rw [lcB_k rfl]
    simp only [↓evd, evu, evl, Nat.reduceAdd, Nat.reduceSub, Nat.reduceLeDiff, Nat.reduceEqDiff, Nat.zero_le, Nat.le_refl, Nat.zero_add, Nat.add_zero, Int.reduceEq, Int.reduceLE, Int.reduceLT, Int.reduceAdd, Int.reduceSub, Int.reduceMul, Int.reduceNeg, Int.cast_ofNat_Int, Int.natCast_add, Int.natCast_zero, Int.natCast_one, g1, dig_in]
  rw [List.nil_append]
  by_cases z : c = 48
  · have : w = [48] := by rw [← hw, z, hz z]
    subst this
    have zz : ([c] = [48]) := by rw [z]
    simp only [↓evd, evu, evl, Nat.reduceAdd, Nat.reduceSub, Nat.reduceLeDiff, Nat.reduceEqDiff, Nat.zero_le, Nat.le_refl, Nat.zero_add, Nat.add_zero, Int.reduceEq, Int.reduceLE, Int.reduceLT, Int.reduceAdd, Int.reduceSub, Int.reduceMul, Int.reduceNeg, Int.cast_ofNat_Int, Int.natCast_add, Int.natCast_zero, Int.natCast_one, ba, ix0, zz, ti]
  · have zz : ¬ ([c] = [48]) := fun q => z (by injection q)
    simp only [↓evd, evu, evl, Nat.reduceAdd, Nat.reduceSub, Nat.reduceLeDiff, Nat.reduceEqDiff, Nat.zero_le, Nat.le_refl, Nat.zero_add, Nat.add_zero, Int.reduceEq, Int.reduceLE, Int.reduceLT, Int.reduceAdd, Int.reduceSub, Int.reduceMul, Int.reduceNeg, Int.cast_ofNat_Int, Int.natCast_add, Int.natCast_zero, Int.natCast_one, ba, ix0, zz, ti]
theorem non_flat (xs : List T) (h : LH) (a : ∀ x ∈ xs, ∃ i, x = .int i) : inD (.s .non) (.vw xs) h = some false := by
  have f : xs.all flatT = true := by
    rw [List.all_eq_true]; intro x hx; obtain ⟨i, rfl⟩ := a x hx; rfl
  have e : (xs.any fun z => eqF z .non) = false := by
    rw [List.any_eq_false]; intro x hx; obtain ⟨i, rfl⟩ := a x hx; simp [eqF]
  simp only [inD, dctOf, seqOf, lstOf, flatT, f, Bool.and_self, if_true, e]
theorem lc_mm {α : Type} {h : LH} {f : T → LH → R (Option T)} {gd : LH → Bool} {p q : α → T} (hg : gd h = true) : ∀ (zs : List α) (acc : List T), (∀ z ∈ zs, f (p z) h = .ok (some (q z)) h) → lcL f gd (zs.map p) acc h = .ok (acc ++ zs.map q) h
  | [], acc, _ => by simp [lcL, hg]
  | z :: zs, acc, hf => by
    rw [List.map_cons]
    unfold lcL
    rw [if_pos hg, hf z (List.mem_cons_self ..)]
    simp only
    rw [lc_mm hg zs (acc ++ [q z]) fun y hy => hf y (List.mem_cons_of_mem _ hy)]
    simp
theorem numbers_ok (H : HasTxt P) (t : T) (r : RowN t) : callF P (n + 2) 32 [.s (.str (colT t))] h = .ok (.s t) h := by
  obtain ⟨xs, rfl, ne, l, nx⟩ := r
  rw [call_eq (H.df 32 (by decide) rfl) rfl, p_numbers_in]
  have ms := me_split 58 (xs.map strT) h (by simpa using ne) (fun w hw => by obtain ⟨x, hx, rfl⟩ := List.mem_map.mp hw; exact num_free (nx x hx) (by omega))
    (by have := row_len ⟨xs, rfl, ne, l, nx⟩; change (joinC [58] (xs.map strT)).length ≤ 12 at this; omega)
  rw [List.map_map] at ms
  simp only [↓evd, evu, evl, Nat.reduceAdd, Nat.reduceSub, Nat.reduceLeDiff, Nat.reduceEqDiff, Nat.zero_le, Nat.le_refl, Nat.zero_add, Nat.add_zero, Int.reduceEq, Int.reduceLE, Int.reduceLT, Int.reduceAdd, Int.reduceSub, Int.reduceMul, Int.reduceNeg, Int.cast_ofNat_Int, Int.natCast_add, Int.natCast_zero, Int.natCast_one, colT, ms, me_s, lcK]
  rw [lc_mm (p := T.str ∘ strT) (q := fun t => t) rfl]
  rotate_left
  · intro x hx
    obtain ⟨m, rfl, lm⟩ := nx x hx
    have nk := number_ok (n := n) (h := h) H m lm
    rw [lcB_k rfl]
    simp only [↓evd, evu, evl, Nat.reduceAdd, Nat.reduceSub, Nat.reduceLeDiff, Nat.reduceEqDiff, Nat.zero_le, Nat.le_refl, Nat.zero_add, Nat.add_zero, Int.reduceEq, Int.reduceLE, Int.reduceLT, Int.reduceAdd, Int.reduceSub, Int.reduceMul, Int.reduceNeg, Int.cast_ofNat_Int, Int.natCast_add, Int.natCast_zero, Int.natCast_one, strT, nk, Function.comp]
  rw [List.nil_append, List.map_id']
  have nf := non_flat xs h (fun x hx => by obtain ⟨m, rfl, _⟩ := nx x hx; exact ⟨_, rfl⟩)
  have bt : biD .tuple [.vw xs] h = some (.s (.tup xs)) := rfl
  simp only [↓evd, evu, evl, Nat.reduceAdd, Nat.reduceSub, Nat.reduceLeDiff, Nat.reduceEqDiff, Nat.zero_le, Nat.le_refl, Nat.zero_add, Nat.add_zero, Int.reduceEq, Int.reduceLE, Int.reduceLT, Int.reduceAdd, Int.reduceSub, Int.reduceMul, Int.reduceNeg, Int.cast_ofNat_Int, Int.natCast_add, Int.natCast_zero, Int.natCast_one, nf, bt]
theorem dat1_tup {h : LH} : ∀ {rs : List T}, (∀ r ∈ rs, ∃ xs, r = .tup xs) → dat1s h rs = datTs rs
  | [], _ => rfl
  | r :: rs, a => by
    obtain ⟨xs, rfl⟩ := a r (List.mem_cons_self ..)
    rw [dat1s, datTs, dat1_tup fun r hr => a r (List.mem_cons_of_mem _ hr)]
    rfl
theorem gd_all : ∀ {xs : List T}, (∀ x ∈ xs, gdT x = true) → gdTs xs = true
  | [], _ => rfl
  | x :: xs, a => by
    rw [gdTs, a x (List.mem_cons_self ..), gd_all fun y hy => a y (List.mem_cons_of_mem _ hy)]; rfl
theorem num_gd {t : T} (h : NumT t) : gdT t = true := by
  obtain ⟨m, rfl, l⟩ := h
  rw [gdT]
  exact decide_eq_true (by omega)
theorem row_gd {t : T} (h : RowN t) : gdT t = true ∧ dpT t = 1 := by
  obtain ⟨xs, rfl, _, _, nx⟩ := h
  refine ⟨by rw [gdT]; exact gd_all fun x hx => num_gd (nx x hx), ?_⟩
  rw [dpT]
  have : ∀ ys : List T, (∀ x ∈ ys, NumT x) → dpTs ys = 0 := by
    intro ys
    induction ys with
    | nil => intro _; rfl
    | cons y ys ih =>
      intro a
      obtain ⟨m, rfl, _⟩ := a y (List.mem_cons_self ..)
      rw [dpTs, ih fun x hx => a x (List.mem_cons_of_mem _ hx)]; rfl
  rw [this xs nx]
theorem dp_le {k : Nat} : ∀ {xs : List T}, (∀ x ∈ xs, dpT x ≤ k) → dpTs xs ≤ k
  | [], _ => Nat.zero_le _
  | x :: xs, a => by
    rw [dpTs]
    exact Nat.max_le.mpr ⟨a x (List.mem_cons_self ..), dp_le fun y hy => a y (List.mem_cons_of_mem _ hy)⟩
theorem dat_tup : ∀ {rs : List T} {ds : List PySem.PyData}, (∀ r ∈ rs, ∃ xs, r = .tup xs) → datTs rs = some ds → ∀ d ∈ ds, PySem.PyData.eqv d .none = false
  | [], ds, _, e, d, hd => by cases e; cases hd
  | r :: rs, ds, a, e, d, hd => by
    obtain ⟨xs, rfl⟩ := a r (List.mem_cons_self ..)
    rw [datTs] at e
    cases q1 : datT (.tup xs) with
    | none => rw [q1] at e; cases e
    | some d1 =>
      cases q2 : datTs rs with
      | none => rw [q1, q2] at e; cases e
      | some ds2 =>
        rw [q1, q2] at e
        simp only [Option.some.injEq] at e
        subst e
        rcases List.mem_cons.mp hd with rfl | hd
        · rw [datT] at q1
          cases q3 : datTs xs with
          | none => rw [q3] at q1; cases q1
          | some z =>
            rw [q3] at q1
            simp only [Option.map_some, Option.some.injEq] at q1
            subst q1
            rfl
        · exact dat_tup (fun r hr => a r (List.mem_cons_of_mem _ hr)) q2 d hd
theorem non_tab (rs : List T) (h : LH) (a : ∀ r ∈ rs, RowN r) : inD (.s .non) (.vw rs) h = some false := by
  have tp : ∀ r ∈ rs, ∃ xs, r = T.tup xs := fun r hr => by obtain ⟨xs, e, _⟩ := a r hr; exact ⟨xs, e⟩
  cases rs with
  | nil => rfl
  | cons r rs =>
    have nf : (r :: rs).all flatT = false := by
      obtain ⟨xs, rfl⟩ := tp r (List.mem_cons_self ..)
      rfl
    obtain ⟨ds, e, c1, _, _, _, dp, _⟩ := gd_dats (r :: rs) (gd_all fun x hx => (row_gd (a x hx)).1)
    have dl : dpTs (r :: rs) ≤ 1 := dp_le fun x hx => by rw [(row_gd (a x hx)).2]; exact Nat.le_refl _
    have e2 : datD h (.vw (r :: rs)) = some (.list ds) := by
      show (dat1s h (r :: rs)).map _ = _
      rw [dat1_tup tp, e]; rfl
    have sh : PySem.SeqAt.shaped (.list ds) = true := by
      simp only [PySem.SeqAt.shaped, PySem.PyData.canLay0, PySem.PyData.depth, c1, dp, Bool.true_and, decide_eq_true_eq]
      omega
    have an : (ds.any fun z => PySem.PyData.eqv z .none) = false := by
      rw [List.any_eq_false]
      intro d hd
      rw [dat_tup tp e d hd]; decide
    have e1 : datD h (.s .non) = some .none := rfl
    have sn : PySem.SeqAt.shaped .none = true := rfl
    simp only [inD, dctOf, seqOf, lstOf, nf, Bool.and_false, if_false, inN, e1, e2, sn, sh, Bool.and_self, if_true, an, Bool.false_eq_true]
theorem tablein_ok (H : HasTxt P) (t : T) (r : TabN t) : callF P (n + 3) 33 [.vw ((tabW t).map T.str)] h = .ok (.s t) h := by
  obtain ⟨rs, rfl, l, nr⟩ := r
  rw [call_eq (H.df 33 (by decide) rfl) rfl, p_table_in]
  simp only [↓evd, evu, evl, Nat.reduceAdd, Nat.reduceSub, Nat.reduceLeDiff, Nat.reduceEqDiff, Nat.zero_le, Nat.le_refl, Nat.zero_add, Nat.add_zero, Int.reduceEq, Int.reduceLE, Int.reduceLT, Int.reduceAdd, Int.reduceSub, Int.reduceMul, Int.reduceNeg, Int.cast_ofNat_Int, Int.natCast_add, Int.natCast_zero, Int.natCast_one, tabW, List.map_map, lcK]
  rw [lc_mm (p := T.str ∘ colT) (q := fun t => t) rfl]
  rotate_left
  · intro x hx
    have nk := numbers_ok (n := n) (h := h) H x (nr x hx)
    rw [lcB_k rfl]
    simp only [↓evd, evu, evl, Nat.reduceAdd, Nat.reduceSub, Nat.reduceLeDiff, Nat.reduceEqDiff, Nat.zero_le, Nat.le_refl, Nat.zero_add, Nat.add_zero, Int.reduceEq, Int.reduceLE, Int.reduceLT, Int.reduceAdd, Int.reduceSub, Int.reduceMul, Int.reduceNeg, Int.cast_ofNat_Int, Int.natCast_add, Int.natCast_zero, Int.natCast_one, nk, Function.comp]
  rw [List.nil_append, List.map_id']
  have nf := non_tab rs h nr
  have bt : biD .tuple [.vw rs] h = some (.s (.tup rs)) := rfl
  simp only [↓evd, evu, evl, Nat.reduceAdd, Nat.reduceSub, Nat.reduceLeDiff, Nat.reduceEqDiff, Nat.zero_le, Nat.le_refl, Nat.zero_add, Nat.add_zero, Int.reduceEq, Int.reduceLE, Int.reduceLT, Int.reduceAdd, Int.reduceSub, Int.reduceMul, Int.reduceNeg, Int.cast_ofNat_Int, Int.natCast_add, Int.natCast_zero, Int.natCast_one, nf, bt]
end
end Rm
set_option Elab.async false
set_option linter.all false
set_option autoImplicit false
set_option maxRecDepth 100000
/-! a roll's rows, as words -/
namespace Rm
open Kp
abbrev wSteps : List Nat := [115, 116, 101, 112, 115]
abbrev wTeam : List Nat := [116, 101, 97, 109]
abbrev wPrice : List Nat := [112, 114, 105, 99, 101]
abbrev wFine : List Nat := [102, 105, 110, 101]
abbrev wPaid : List Nat := [112, 97, 105, 100]
abbrev wCarried : List Nat := [99, 97, 114, 114, 105, 101, 100]
abbrev wLoads : List Nat := [108, 111, 97, 100, 115]
abbrev wHouse : List Nat := [104, 111, 117, 115, 101]
abbrev wStretch : List Nat := [115, 116, 114, 101, 116, 99, 104]
def hrow : T → List (List Nat)
  | .tup [a, b, c, d] => wHouse :: strT a :: strT b :: strT c :: tabW d
  | _ => []
def srow : T → List (List Nat)
  | .tup [a, b, c, d] => wStretch :: strT a :: strT b :: strT c :: tabW d
  | _ => []
def arow : List T → List (List (List Nat))
  | [a0, a1, a2, a3, a4, a5, a6] => [wSteps :: tabW a0, [wTeam, colT a1], [wPrice, strT a2], [wFine, strT a3], [wPaid, strT a4], [wCarried, strT a5], [wLoads, strT a6]]
  | _ => []
def rowsW (fs hs ss : List T) : List (List (List Nat)) := arow fs ++ hs.map hrow ++ ss.map srow
def rowsT (fs hs ss : List T) : List (List Nat) := (rowsW fs hs ss).map (joinC [32])
def rollTx (fs hs ss : List T) : List Nat := joinC [10] (rowsT fs hs ss)
/-! ### the parts of a roll -/
theorem tab_n {p q : T → Bool} {lo hi : Int} {t : T} (h : tabB p q lo hi t = true) (hp : ∀ t, p t = true → NumT t) (hq : ∀ t, q t = true → NumT t) (hi' : hi ≤ 10) : TabN t := by
  unfold tabB at h
  split at h
  · rename_i xs
    simp only [Bool.and_eq_true, decide_eq_true_eq] at h
    refine ⟨xs, rfl, by omega, fun r hr => ?_⟩
    have := List.all_eq_true.mp h.1.1.2 r hr
    unfold prB at this
    split at this
    · rename_i a b
      simp only [Bool.and_eq_true] at this
      refine ⟨[a, b], rfl, by simp, by simp, ?_⟩
      intro x hx
      simp only [List.mem_cons, List.not_mem_nil, or_false] at hx
      rcases hx with rfl | rfl
      · exact hp _ this.1
      · exact hq _ this.2
    · cases this
  · cases h
theorem wants_n {t : T} (h : wantsB t = true) : TabN t := by
  unfold wantsB at h
  split at h
  · rename_i xs
    simp only [Bool.and_eq_true, decide_eq_true_eq] at h
    refine ⟨xs, rfl, by omega, fun r hr => ?_⟩
    have := List.all_eq_true.mp h.1.2 r hr
    unfold rowB at this
    split at this
    · rename_i a b c
      simp only [Bool.and_eq_true] at this
      refine ⟨[a, b, c], rfl, by simp, by simp, ?_⟩
      intro x hx
      simp only [List.mem_cons, List.not_mem_nil, or_false] at hx
      rcases hx with rfl | rfl | rfl
      · exact num_am this.1.1 (by decide) (by decide)
      · exact num_am this.1.2 (by decide) (by decide)
      · exact num_am this.2 (by decide) (by decide)
    · cases this
  · cases h
structure HouN (x a b c d : T) : Prop where
  eq : x = .tup [a, b, c, d]
  nm : nmT a = true
  n1 : NumT b
  n2 : NumT c
  tb : TabN d
theorem house_n {x : T} (h : houseB x = true) : ∃ a b c d, HouN x a b c d := by
  unfold houseB at h
  split at h
  · rename_i a b c d
    simp only [Bool.and_eq_true] at h
    exact ⟨a, b, c, d, rfl, h.1.1.1, num_am h.1.1.2 (by decide) (by decide), num_am h.1.2 (by decide) (by decide), tab_n h.2 (fun t ht => num_am ht (by decide) (by decide)) (fun t ht => num_am ht (by decide) (by decide)) (by decide)⟩
  · cases h
structure StrN (x a b c d : T) : Prop where
  eq : x = .tup [a, b, c, d]
  nm : nmT a = true
  n1 : NumT b
  n2 : nmT c = true
  tb : TabN d
theorem stretch_n {x : T} (h : stretchB x = true) : ∃ a b c d, StrN x a b c d := by
  unfold stretchB at h
  split at h
  · rename_i a b c d
    simp only [Bool.and_eq_true] at h
    exact ⟨a, b, c, d, rfl, h.1.1.1, num_am h.1.1.2 (by decide) (by decide), h.1.2, wants_n h.2⟩
  · cases h
structure ActN (fs : List T) (a0 a1 a2 a3 a4 a5 a6 : T) : Prop where
  eq : fs = [a0, a1, a2, a3, a4, a5, a6]
  n0 : TabN a0
  n1 : RowN a1
  n2 : NumT a2
  n3 : NumT a3
  n4 : NumT a4
  n5 : NumT a5
  n6 : NumT a6
theorem act_n {fs : List T} (o : ActOk fs) : ∃ a0 a1 a2 a3 a4 a5 a6, ActN fs a0 a1 a2 a3 a4 a5 a6 := by
  match fs, o with
  | [a0, a1, a2, a3, a4, a5, a6], o =>
    have f0 := o.fld 0 a0 rfl
    have f1 := o.fld 1 a1 rfl
    have f2 : amT a2 0 99 = true := o.fld 2 a2 rfl
    have f3 : amT a3 0 99 = true := o.fld 3 a3 rfl
    have f4 : amT a4 0 40 = true := o.fld 4 a4 rfl
    have f5 : amT a5 0 40 = true := o.fld 5 a5 rfl
    have f6 : amT a6 1 9 = true := o.fld 6 a6 rfl
    change stepsB a0 = true at f0
    change teamB a1 = true at f1
    refine ⟨a0, a1, a2, a3, a4, a5, a6, rfl, tab_n f0 (fun t ht => num_am ht (by decide) (by decide)) (fun t ht => num_am ht (by decide) (by decide)) (by decide), ?_, num_am f2 (by decide) (by decide), num_am f3 (by decide) (by decide), num_am f4 (by decide) (by decide), num_am f5 (by decide) (by decide), num_am f6 (by decide) (by decide)⟩
    unfold teamB at f1
    split at f1
    · rename_i a b
      simp only [Bool.and_eq_true] at f1
      refine ⟨[a, b], rfl, by simp, by simp, ?_⟩
      intro x hx
      simp only [List.mem_cons, List.not_mem_nil, or_false] at hx
      rcases hx with rfl | rfl
      · exact num_am f1.1 (by decide) (by decide)
      · exact num_am f1.2 (by decide) (by decide)
    · cases f1
/-! ### words -/
structure WordOk (w : List Nat) : Prop where
  l : w.length ≤ 12
  b : 32 ∉ w
  r : 10 ∉ w
structure RowOk (ws : List (List Nat)) : Prop where
  ne : ws ≠ []
  l : ws.length ≤ 14
  w : ∀ w ∈ ws, WordOk w
theorem word_num {t : T} (h : NumT t) : WordOk (strT t) := ⟨by have := num_len h; omega, num_free h (by omega), num_free h (by omega)⟩
theorem word_row {t : T} (h : RowN t) : WordOk (colT t) := ⟨row_len h, row_free h (by omega), row_free h (by omega)⟩
theorem word_nm {t : T} (h : nmT t = true) : WordOk (strT t) := by
  cases t with
  | str s =>
    simp only [nmT, Bool.and_eq_true, decide_eq_true_eq] at h
    have f : ∀ c ∈ s, c ∈ LET := fun c hc => by have := List.all_eq_true.mp h.2 c hc; simpa [lowB] using this
    exact ⟨by show s.length ≤ 12; omega, fun m => absurd (f _ m) (by decide), fun m => absurd (f _ m) (by decide)⟩
  | _ => simp [nmT] at h
theorem tab_len {t : T} (h : TabN t) : (tabW t).length ≤ 10 := by
  obtain ⟨rs, rfl, l, _⟩ := h
  simpa [tabW] using l
theorem tab_word {t : T} (h : TabN t) : ∀ w ∈ tabW t, WordOk w := by
  obtain ⟨rs, rfl, l, nr⟩ := h
  intro w hw
  obtain ⟨r, hr, rfl⟩ := List.mem_map.mp hw
  exact word_row (nr r hr)
theorem hrow_ok {x : T} (h : houseB x = true) : RowOk (hrow x) := by
  obtain ⟨a, b, c, d, rfl, nm, n1, n2, tb⟩ := house_n h
  have := tab_len tb
  refine ⟨by simp [hrow], by simp only [hrow, List.length_cons]; omega, ?_⟩
  intro w hw
  simp only [hrow, List.mem_cons] at hw
  rcases hw with rfl | rfl | rfl | rfl | hw
  · exact ⟨by decide, by decide, by decide⟩
  · exact word_nm nm
  · exact word_num n1
  · exact word_num n2
  · exact tab_word tb w hw
theorem srow_ok {x : T} (h : stretchB x = true) : RowOk (srow x) := by
  obtain ⟨a, b, c, d, rfl, nm, n1, n2, tb⟩ := stretch_n h
  have := tab_len tb
  refine ⟨by simp [srow], by simp only [srow, List.length_cons]; omega, ?_⟩
  intro w hw
  simp only [srow, List.mem_cons] at hw
  rcases hw with rfl | rfl | rfl | rfl | hw
  · exact ⟨by decide, by decide, by decide⟩
  · exact word_nm nm
  · exact word_num n1
  · exact word_nm n2
  · exact tab_word tb w hw
theorem two_ok {a b : List Nat} (ha : WordOk a) (hb : WordOk b) : RowOk [a, b] := by
  refine ⟨by simp, by simp, ?_⟩
  intro w hw
  simp only [List.mem_cons, List.not_mem_nil, or_false] at hw
  rcases hw with rfl | rfl
  · exact ha
  · exact hb
theorem steps_row {t : T} (h : TabN t) : RowOk (wSteps :: tabW t) := by
  have := tab_len h
  refine ⟨by simp, by simp only [List.length_cons]; omega, ?_⟩
  intro w hw
  rcases List.mem_cons.mp hw with rfl | hw
  · exact ⟨by decide, by decide, by decide⟩
  · exact tab_word h w hw
theorem arow_ok {fs : List T} (o : ActOk fs) : (arow fs).length = 7 ∧ ∀ r ∈ arow fs, RowOk r := by
  obtain ⟨a0, a1, a2, a3, a4, a5, a6, rfl, n0, n1, n2, n3, n4, n5, n6⟩ := act_n o
  refine ⟨rfl, ?_⟩
  intro r hr
  simp only [arow, List.mem_cons, List.not_mem_nil, or_false] at hr
  have z : ∀ w : List Nat, w.length ≤ 12 → 32 ∉ w → 10 ∉ w → WordOk w := fun w a b c => ⟨a, b, c⟩
  rcases hr with rfl | rfl | rfl | rfl | rfl | rfl | rfl
  · exact steps_row n0
  · exact two_ok (z _ (by decide) (by decide) (by decide)) (word_row n1)
  · exact two_ok (z _ (by decide) (by decide) (by decide)) (word_num n2)
  · exact two_ok (z _ (by decide) (by decide) (by decide)) (word_num n3)
  · exact two_ok (z _ (by decide) (by decide) (by decide)) (word_num n4)
  · exact two_ok (z _ (by decide) (by decide) (by decide)) (word_num n5)
  · exact two_ok (z _ (by decide) (by decide) (by decide)) (word_num n6)
theorem rows_ok {fs hs ss : List T} (o : RollOk fs hs ss) : (rowsW fs hs ss).length = 7 + hs.length + ss.length ∧ ∀ r ∈ rowsW fs hs ss, RowOk r := by
  have a := arow_ok o.act
  refine ⟨by simp [rowsW, a.1]; omega, ?_⟩
  intro r hr
  rcases List.mem_append.mp hr with hr | hr
  · rcases List.mem_append.mp hr with hr | hr
    · exact a.2 r hr
    · obtain ⟨x, hx, rfl⟩ := List.mem_map.mp hr
      exact hrow_ok (List.all_eq_true.mp o.hou.all x hx)
  · obtain ⟨x, hx, rfl⟩ := List.mem_map.mp hr
    exact srow_ok (List.all_eq_true.mp o.str.all x hx)
theorem RowOk.len {r : List (List Nat)} (o : RowOk r) : (joinC [32] r).length ≤ 182 := by
  have := jn_bd (c := 32) (B := 12) (ws := r) (fun w hw => (o.w w hw).l)
  have := o.l
  omega
theorem RowOk.free {r : List (List Nat)} (o : RowOk r) : 10 ∉ joinC [32] r := by
  intro h
  rcases jn_mem h with h | ⟨w, hw, h⟩
  · cases h
  · exact (o.w w hw).r h
theorem RowOk.split {r : List (List Nat)} (o : RowOk r) (h : LH) : meD .split (.s (.str (joinC [32] r))) [.s (.str [32])] h = some (.tl (r.map T.str)) :=
  me_split 32 r h o.ne (fun w hw => (o.w w hw).b) (by have := o.len; omega)
theorem RowOk.join {r : List (List Nat)} (o : RowOk r) {d : D} {h : LH} (e : lstOf d h = some (r.map T.str)) : meD .join (.s (.str [32])) [d] h = some (.s (.str (joinC [32] r))) :=
  me_join (B := 12) e (fun w hw => (o.w w hw).l) (by have := o.l; omega)
theorem rollx_len {fs hs ss : List T} (o : RollOk fs hs ss) : (rollTx fs hs ss).length ≤ 10000 ∧ ∀ r ∈ rowsT fs hs ss, r.length ≤ 182 ∧ 10 ∉ r := by
  have a := rows_ok o
  have w : ∀ r ∈ rowsT fs hs ss, r.length ≤ 182 ∧ 10 ∉ r := fun r hr => by
    obtain ⟨x, hx, rfl⟩ := List.mem_map.mp hr
    exact ⟨(a.2 x hx).len, (a.2 x hx).free⟩
  refine ⟨?_, w⟩
  have jb := jn_bd (c := 10) (B := 182) (ws := rowsT fs hs ss) (fun r hr => (w r hr).1)
  have l : (rowsT fs hs ss).length = 7 + hs.length + ss.length := by rw [rowsT, List.length_map, a.1]
  have := o.hl
  have := o.sl
  unfold rollTx
  rw [l] at jb
  have : (7 + hs.length + ss.length) * (182 + 1) ≤ 21 * 183 := Nat.mul_le_mul_right _ (by omega)
  omega
theorem roll_join {fs hs ss : List T} (o : RollOk fs hs ss) {d : D} {h : LH} (e : lstOf d h = some ((rowsT fs hs ss).map T.str)) : meD .join (.s (.str [10])) [d] h = some (.s (.str (rollTx fs hs ss))) := by
  have w := (rollx_len o).2
  have l : (rowsT fs hs ss).length = 7 + hs.length + ss.length := by rw [rowsT, List.length_map, (rows_ok o).1]
  refine me_join (B := 182) e (fun r hr => (w r hr).1) ?_
  have := o.hl
  have := o.sl
  rw [l]
  have : (7 + hs.length + ss.length) * (182 + 1) ≤ 21 * 183 := Nat.mul_le_mul_right _ (by omega)
  omega
theorem roll_split {fs hs ss : List T} (o : RollOk fs hs ss) (h : LH) : meD .split (.s (.str (rollTx fs hs ss))) [.s (.str [10])] h = some (.tl ((rowsT fs hs ss).map T.str)) := by
  have w := rollx_len o
  refine me_split 10 _ h ?_ (fun r hr => (w.2 r hr).2) (by have := w.1; unfold rollTx at this; omega)
  intro z
  have l : (rowsT fs hs ss).length = 7 + hs.length + ss.length := by rw [rowsT, List.length_map, (rows_ok o).1]
  rw [z] at l
  simp at l
  omega
end Rm
set_option Elab.async false
set_option linter.all false
set_option autoImplicit false
set_option maxRecDepth 100000
/-! roll_text -/
namespace Rm
open Kp
section
variable {P : Pg} {n : Nat} {h : LH}
theorem rows_c (fs : List T) (hs ss : List T) : rowsT fs hs ss = (arow fs).map (joinC [32]) ++ hs.map (fun x => joinC [32] (hrow x)) ++ ss.map (fun x => joinC [32] (srow x)) := by
  simp [rowsT, rowsW, List.map_append, List.map_map, Function.comp_def]
abbrev HEADS : List T := [.str wSteps, .str wTeam, .str wPrice, .str wFine, .str wPaid, .str wCarried, .str wLoads]
/-- a row of two words -/
def tworow : T → List Nat
  | .tup [.str a, b] => joinC [32] [a, strT b]
  | _ => []
theorem add_tl {a b : List T} {h : LH} (l : a.length + b.length ≤ 1000) : binD .add (.tl a) (.tl b) h = some (.tl (a ++ b)) := by
  have sz : sizeOk (a.length + b.length) = true := decide_eq_true (by omega)
  show (if sizeOk (a.length + b.length) then some (D.tl (a ++ b)) else none) = _
  rw [if_pos sz]
theorem add_ss {a b : List Nat} {h : LH} (l : a.length + b.length ≤ 1000) : binD .add (.s (.str a)) (.s (.str b)) h = some (.s (.str (a ++ b))) := by
  have sz : sizeOk (a.length + b.length) = true := decide_eq_true (by omega)
  rw [b_ss, if_pos sz]
theorem tk_s {g : T → List Nat} {base : List (List Nat)} {xs : List T} {i : Nat} {x : T} (e : xs[i]? = some x) : (base ++ (xs.take i).map g).map T.str ++ [T.str (g x)] = (base ++ (xs.take (i + 1)).map g).map T.str := by
  rw [List.take_succ, e]
  simp
theorem tk_len {g : T → List Nat} {base : List (List Nat)} {xs : List T} {i : Nat} (l : base.length + xs.length ≤ 100) : ((base ++ (xs.take i).map g).map T.str).length < 1000 := by
  simp only [List.length_map, List.length_append, List.length_take]
  omega
theorem nm_strT {t : T} (h : nmT t = true) : ∃ w, t = .str w := by
  cases t <;> simp [nmT] at h
  exact ⟨_, rfl⟩
theorem rolltext_ok (H : HasTxt P) (HR : HasRoll P) (fs hs ss : List T) (o : RollOk fs hs ss) (h1 : okVs h fs = true) (h2 : okVs h hs = true) (h3 : okVs h ss = true) : callF P (n + 8) 39 [.s (rollT fs hs ss)] h = .ok (.s (.str (rollTx fs hs ss))) h := by
  have rk := roll_ok (n := n) HR fs hs ss o h1 h2 h3
  have rj := fun d => roll_join (d := d) (h := h) o
  have ohl := o.hl
  have osl := o.sl
  have hall := List.all_eq_true.mp o.hou.all
  have sall := List.all_eq_true.mp o.str.all
  obtain ⟨a0, a1, a2, a3, a4, a5, a6, rfl, n0, n1, n2, n3, n4, n5, n6⟩ := act_n o.act
  have g27 := H.gl 27 (by decide) (t := .tup HEADS) rfl
  have sr := steps_row n0
  obtain ⟨rs, rfl, lr, nr⟩ := n0
  have jk := fun x (hx : RowN x) => joined_ok (n := n + 6) (h := h) (H.df 30 (by decide) rfl) x hx
  refine eq_W (t := fx) (call_W (H.df 39 (by decide) rfl) rfl ?_)
  rw [p_roll_text]
  have ix0 : ixD (.s (.tup [.tup rs, a1, a2, a3, a4, a5, a6])) (.s (.int 0)) h = some (.s (.tup rs)) := by simp [ixD, dctOf, seqOf, at0]
  have ix1 : ixD (.s (.tup [.tup rs, a1, a2, a3, a4, a5, a6])) (.s (.int 1)) h = some (.s a1) := by
    simp only [ixD, dctOf, seqOf]
    rw [show atT [T.tup rs, a1, a2, a3, a4, a5, a6] 1 = some a1 from L2.atI_nat (j := 1) rfl]
    rfl
  have sl1 : slD (.s (.tup [.tup rs, a1, a2, a3, a4, a5, a6])) (some 2) none h = some (.s (.tup [a2, a3, a4, a5, a6])) := rfl
  have sl2 : slD (.s (.tup HEADS)) (some 2) none h = some (.s (.tup [.str wPrice, .str wFine, .str wPaid, .str wCarried, .str wLoads])) := rfl
  simp only [↓evd, evu, evl, Nat.reduceAdd, Nat.reduceSub, Nat.reduceLeDiff, Nat.reduceEqDiff, Nat.zero_le, Nat.le_refl, Nat.zero_add, Nat.add_zero, Int.reduceEq, Int.reduceLE, Int.reduceLT, Int.reduceAdd, Int.reduceSub, Int.reduceMul, Int.reduceNeg, Int.cast_ofNat_Int, Int.natCast_add, Int.natCast_zero, Int.natCast_one, rk, unpOf, ix0, lcK, me_j]
  rw [lc_map (g := T.str ∘ colT) rfl]
  rotate_left
  · intro x hx
    rw [lcB_k rfl]
    simp only [↓evd, evu, evl, Nat.reduceAdd, Nat.reduceSub, Nat.reduceLeDiff, Nat.reduceEqDiff, Nat.zero_le, Nat.le_refl, Nat.zero_add, Nat.add_zero, Int.reduceEq, Int.reduceLE, Int.reduceLT, Int.reduceAdd, Int.reduceSub, Int.reduceMul, Int.reduceNeg, Int.cast_ofNat_Int, Int.natCast_add, Int.natCast_zero, Int.natCast_one, jk x (nr x hx)]
    rfl
  have bb := add_tl (a := [T.str wSteps]) (b := rs.map (T.str ∘ colT)) (h := h) (by simp only [List.length_map, List.length_cons, List.length_nil]; omega)
  have e1 : [T.str wSteps] ++ rs.map (T.str ∘ colT) = (wSteps :: tabW (.tup rs)).map T.str := by simp [tabW]
  rw [e1] at bb
  have mj := sr.join (d := .tl ((wSteps :: tabW (.tup rs)).map T.str)) (h := h) rfl
  have rl := row_len n1
  have bs := add_ss (a := [116, 101, 97, 109, 32]) (b := colT a1) (h := h) (by simp only [List.length_cons, List.length_nil]; omega)
  simp only [↓evd, evu, evl, Nat.reduceAdd, Nat.reduceSub, Nat.reduceLeDiff, Nat.reduceEqDiff, Nat.zero_le, Nat.le_refl, Nat.zero_add, Nat.add_zero, Int.reduceEq, Int.reduceLE, Int.reduceLT, Int.reduceAdd, Int.reduceSub, Int.reduceMul, Int.reduceNeg, Int.cast_ofNat_Int, Int.natCast_add, Int.natCast_zero, Int.natCast_one, List.nil_append, bb, mj, ix1, jk a1 n1, bs, g27, sl1, sl2, zipD, itX, itOf, zip2]
  have sz : slotI (Ix.zp [(Ex.g 27).sl (some (Ex.c (T.int 2))) none, (Ex.v 1).sl (some (Ex.c (T.int 2))) none]) = [] := rfl
  have r2 : [T.str (joinC [32] (wSteps :: tabW (T.tup rs))), T.str ([116, 101, 97, 109, 32] ++ colT a1)] = [joinC [32] (wSteps :: tabW (T.tup rs)), joinC [32] [wTeam, colT a1]].map T.str := rfl
  simp only [↓evd, evu, evl, Nat.reduceAdd, Nat.reduceSub, Nat.reduceLeDiff, Nat.reduceEqDiff, Nat.zero_le, Nat.le_refl, Nat.zero_add, Nat.add_zero, Int.reduceEq, Int.reduceLE, Int.reduceLT, Int.reduceAdd, Int.reduceSub, Int.reduceMul, Int.reduceNeg, Int.cast_ofNat_Int, Int.natCast_add, Int.natCast_zero, Int.natCast_one, sz, r2]
  generalize hb : [joinC [32] (wSteps :: tabW (T.tup rs)), joinC [32] [wTeam, colT a1]] = base
  generalize hz : [T.tup [T.str wPrice, a2], T.tup [T.str wFine, a3], T.tup [T.str wPaid, a4], T.tup [T.str wCarried, a5], T.tup [T.str wLoads, a6]] = Z
  have lb : base.length = 2 := by rw [← hb]; rfl
  have lz : Z.length = 5 := by rw [← hz]; rfl
  have zs : ∀ x ∈ Z, ∃ w a, x = .tup [.str w, a] ∧ w.length ≤ 12 ∧ NumT a := by
    rw [← hz]
    intro x hx
    simp only [List.mem_cons, List.not_mem_nil, or_false] at hx
    rcases hx with rfl | rfl | rfl | rfl | rfl
    · exact ⟨_, _, rfl, by decide, n2⟩
    · exact ⟨_, _, rfl, by decide, n3⟩
    · exact ⟨_, _, rfl, by decide, n4⟩
    · exact ⟨_, _, rfl, by decide, n5⟩
    · exact ⟨_, _, rfl, by decide, n6⟩
  have ea : base ++ Z.map tworow = (arow [.tup rs, a1, a2, a3, a4, a5, a6]).map (joinC [32]) := by rw [← hb, ← hz]; rfl
  refine for_atW (fun i s hh => h = hh ∧ ∃ s5 s6 s7, s = [some (.s (rollT [.tup rs, a1, a2, a3, a4, a5, a6] hs ss)), some (.s (.tup [.tup rs, a1, a2, a3, a4, a5, a6])), some (.s (.tup hs)), some (.s (.tup ss)), some (.tl ((base ++ (Z.take i).map tworow).map T.str)), s5, s6, s7, none, none, none, none, none, none, none]) (fun _ _ _ _ => rfl) ⟨rfl, none, none, none, by simp⟩ ?_ ?_
  · rintro i x hi _ _ ⟨rfl, s5, s6, s7, rfl⟩
    obtain ⟨w, a, rfl, lw, na⟩ := zs x (List.mem_of_getElem? hi)
    have tk := tk_s (g := tworow) (base := base) hi
    have nl := num_len na
    have ax := add_ss (a := w) (b := [32]) (h := h) (by simp only [List.length_cons, List.length_nil]; omega)
    have ay := add_ss (a := w ++ [32]) (b := strT a) (h := h) (by simp only [List.length_append, List.length_cons, List.length_nil]; omega)
    rw [forB_k (by simp only [b_t, bs_1, bs_0]; rfl)]
    simp only [↓evd, evu, evl, Nat.reduceAdd, Nat.reduceSub, Nat.reduceLeDiff, Nat.reduceEqDiff, Nat.zero_le, Nat.le_refl, Nat.zero_add, Nat.add_zero, Int.reduceEq, Int.reduceLE, Int.reduceLT, Int.reduceAdd, Int.reduceSub, Int.reduceMul, Int.reduceNeg, Int.cast_ofNat_Int, Int.natCast_add, Int.natCast_zero, Int.natCast_one, plIs, ax, ay, num_str na]
    rw [own_app 4 _ _ _ _ rfl (tk_len (g := tworow) (base := base) (xs := Z) (by omega))]
    exact N_nx.mpr ⟨rfl, s5, some (.s (.str w)), some (.s a), by rw [← tk]; rfl⟩
  · rintro _ _ ⟨rfl, s5, s6, s7, rfl⟩
    rw [List.take_length, ea]
    have la : ((arow [.tup rs, a1, a2, a3, a4, a5, a6]).map (joinC [32])).length = 7 := rfl
    generalize hba : (arow [.tup rs, a1, a2, a3, a4, a5, a6]).map (joinC [32]) = ba at la ⊢
    simp only [↓evd, evu, evl, Nat.reduceAdd, Nat.reduceSub, Nat.reduceLeDiff, Nat.reduceEqDiff, Nat.zero_le, Nat.le_refl, Nat.zero_add, Nat.add_zero, Int.reduceEq, Int.reduceLE, Int.reduceLT, Int.reduceAdd, Int.reduceSub, Int.reduceMul, Int.reduceNeg, Int.cast_ofNat_Int, Int.natCast_add, Int.natCast_zero, Int.natCast_one, ls_1, lo_s, bf_1, no_s]
    refine for_atW (fun i s hh => h = hh ∧ ∃ s5 s8 s9 s10 s11, s = [some (.s (rollT [.tup rs, a1, a2, a3, a4, a5, a6] hs ss)), some (.s (.tup [.tup rs, a1, a2, a3, a4, a5, a6])), some (.s (.tup hs)), some (.s (.tup ss)), some (.tl ((ba ++ (hs.take i).map (fun x => joinC [32] (hrow x))).map T.str)), s5, s6, s7, s8, s9, s10, s11, none, none, none]) (fun _ _ _ _ => rfl) ⟨rfl, s5, none, none, none, none, by simp⟩ ?_ ?_
    · rintro i x hi _ _ ⟨rfl, s5, s8, s9, s10, s11, rfl⟩
      have hx := hall x (List.mem_of_getElem? hi)
      have ro := hrow_ok hx
      obtain ⟨a, b, c, d, rfl, nm, m1, m2, tb⟩ := house_n hx
      have tk := tk_s (g := fun x => joinC [32] (hrow x)) (base := ba) hi
      obtain ⟨qs, rfl, lq, nq⟩ := tb
      obtain ⟨aw, rfl⟩ := nm_strT nm
      rw [forB_k (by simp only [b_t, bs_1, bs_0]; rfl)]
      simp only [↓evd, evu, evl, Nat.reduceAdd, Nat.reduceSub, Nat.reduceLeDiff, Nat.reduceEqDiff, Nat.zero_le, Nat.le_refl, Nat.zero_add, Nat.add_zero, Int.reduceEq, Int.reduceLE, Int.reduceLT, Int.reduceAdd, Int.reduceSub, Int.reduceMul, Int.reduceNeg, Int.cast_ofNat_Int, Int.natCast_add, Int.natCast_zero, Int.natCast_one, plIs, me_j, num_str m1, num_str m2, lcK]
      rw [lc_map (g := T.str ∘ colT) rfl]
      rotate_left
      · intro x hx
        rw [lcB_k rfl]
        simp only [↓evd, evu, evl, Nat.reduceAdd, Nat.reduceSub, Nat.reduceLeDiff, Nat.reduceEqDiff, Nat.zero_le, Nat.le_refl, Nat.zero_add, Nat.add_zero, Int.reduceEq, Int.reduceLE, Int.reduceLT, Int.reduceAdd, Int.reduceSub, Int.reduceMul, Int.reduceNeg, Int.cast_ofNat_Int, Int.natCast_add, Int.natCast_zero, Int.natCast_one, jk x (nq x hx)]
        rfl
      have bb := add_tl (a := [T.str wHouse, T.str aw, T.str (strT b), T.str (strT c)]) (b := qs.map (T.str ∘ colT)) (h := h) (by simp only [List.length_map, List.length_cons, List.length_nil]; omega)
      have e1 : [T.str wHouse, T.str aw, T.str (strT b), T.str (strT c)] ++ qs.map (T.str ∘ colT) = (hrow (.tup [.str aw, b, c, .tup qs])).map T.str := by simp [hrow, tabW, strT]
      rw [e1] at bb
      have mj := ro.join (d := .tl ((hrow (.tup [.str aw, b, c, .tup qs])).map T.str)) (h := h) rfl
      simp only [↓evd, evu, evl, Nat.reduceAdd, Nat.reduceSub, Nat.reduceLeDiff, Nat.reduceEqDiff, Nat.zero_le, Nat.le_refl, Nat.zero_add, Nat.add_zero, Int.reduceEq, Int.reduceLE, Int.reduceLT, Int.reduceAdd, Int.reduceSub, Int.reduceMul, Int.reduceNeg, Int.cast_ofNat_Int, Int.natCast_add, Int.natCast_zero, Int.natCast_one, List.nil_append, bb, mj]
      rw [own_app 4 _ _ _ _ rfl (tk_len (g := fun x => joinC [32] (hrow x)) (base := ba) (xs := hs) (by omega))]
      exact N_nx.mpr ⟨rfl, s5, some (.s (.str aw)), some (.s b), some (.s c), some (.s (.tup qs)), by rw [← tk]; rfl⟩
    · rintro _ _ ⟨rfl, s5, s8, s9, s10, s11, rfl⟩
      rw [List.take_length]
      have lc : (ba ++ hs.map (fun x => joinC [32] (hrow x))).length ≤ 15 := by rw [List.length_append, List.length_map]; omega
      have rj' := rj (.vw ((ba ++ hs.map (fun x => joinC [32] (hrow x)) ++ ss.map (fun x => joinC [32] (srow x))).map T.str)) (by rw [rows_c, hba]; rfl)
      generalize ba ++ hs.map (fun x => joinC [32] (hrow x)) = bc at lc rj' ⊢
      simp only [↓evd, evu, evl, Nat.reduceAdd, Nat.reduceSub, Nat.reduceLeDiff, Nat.reduceEqDiff, Nat.zero_le, Nat.le_refl, Nat.zero_add, Nat.add_zero, Int.reduceEq, Int.reduceLE, Int.reduceLT, Int.reduceAdd, Int.reduceSub, Int.reduceMul, Int.reduceNeg, Int.cast_ofNat_Int, Int.natCast_add, Int.natCast_zero, Int.natCast_one, ls_1, lo_s, bf_1, no_s]
      refine for_atW (fun i s hh => h = hh ∧ ∃ s5 s8 s9 s12 s13, s = [some (.s (rollT [.tup rs, a1, a2, a3, a4, a5, a6] hs ss)), some (.s (.tup [.tup rs, a1, a2, a3, a4, a5, a6])), some (.s (.tup hs)), some (.s (.tup ss)), some (.tl ((bc ++ (ss.take i).map (fun x => joinC [32] (srow x))).map T.str)), s5, s6, s7, s8, s9, s10, s11, s12, s13, none]) (fun _ _ _ _ => rfl) ⟨rfl, s5, s8, s9, none, none, by simp⟩ ?_ ?_
      · rintro i x hi _ _ ⟨rfl, s5, s8, s9, s12, s13, rfl⟩
        have hx := sall x (List.mem_of_getElem? hi)
        have ro := srow_ok hx
        obtain ⟨a, b, c, d, rfl, nm, m1, m2, tb⟩ := stretch_n hx
        have tk := tk_s (g := fun x => joinC [32] (srow x)) (base := bc) hi
        obtain ⟨qs, rfl, lq, nq⟩ := tb
        obtain ⟨aw, rfl⟩ := nm_strT nm
        obtain ⟨cw, rfl⟩ := nm_strT m2
        rw [forB_k (by simp only [b_t, bs_1, bs_0]; rfl)]
        simp only [↓evd, evu, evl, Nat.reduceAdd, Nat.reduceSub, Nat.reduceLeDiff, Nat.reduceEqDiff, Nat.zero_le, Nat.le_refl, Nat.zero_add, Nat.add_zero, Int.reduceEq, Int.reduceLE, Int.reduceLT, Int.reduceAdd, Int.reduceSub, Int.reduceMul, Int.reduceNeg, Int.cast_ofNat_Int, Int.natCast_add, Int.natCast_zero, Int.natCast_one, plIs, me_j, num_str m1, lcK]
        rw [lc_map (g := T.str ∘ colT) rfl]
        rotate_left
        · intro x hx
          rw [lcB_k rfl]
          simp only [↓evd, evu, evl, Nat.reduceAdd, Nat.reduceSub, Nat.reduceLeDiff, Nat.reduceEqDiff, Nat.zero_le, Nat.le_refl, Nat.zero_add, Nat.add_zero, Int.reduceEq, Int.reduceLE, Int.reduceLT, Int.reduceAdd, Int.reduceSub, Int.reduceMul, Int.reduceNeg, Int.cast_ofNat_Int, Int.natCast_add, Int.natCast_zero, Int.natCast_one, jk x (nq x hx)]
          rfl
        have bb := add_tl (a := [T.str wStretch, T.str aw, T.str (strT b), T.str cw]) (b := qs.map (T.str ∘ colT)) (h := h) (by simp only [List.length_map, List.length_cons, List.length_nil]; omega)
        have e1 : [T.str wStretch, T.str aw, T.str (strT b), T.str cw] ++ qs.map (T.str ∘ colT) = (srow (.tup [.str aw, b, .str cw, .tup qs])).map T.str := by simp [srow, tabW, strT]
        rw [e1] at bb
        have mj := ro.join (d := .tl ((srow (.tup [.str aw, b, .str cw, .tup qs])).map T.str)) (h := h) rfl
        simp only [↓evd, evu, evl, Nat.reduceAdd, Nat.reduceSub, Nat.reduceLeDiff, Nat.reduceEqDiff, Nat.zero_le, Nat.le_refl, Nat.zero_add, Nat.add_zero, Int.reduceEq, Int.reduceLE, Int.reduceLT, Int.reduceAdd, Int.reduceSub, Int.reduceMul, Int.reduceNeg, Int.cast_ofNat_Int, Int.natCast_add, Int.natCast_zero, Int.natCast_one, List.nil_append, bb, mj]
        rw [own_app 4 _ _ _ _ rfl (tk_len (g := fun x => joinC [32] (srow x)) (base := bc) (xs := ss) (by omega))]
        exact N_nx.mpr ⟨rfl, s5, some (.s (.str aw)), some (.s b), some (.s (.str cw)), some (.s (.tup qs)), by rw [← tk]; rfl⟩
      · rintro _ _ ⟨rfl, s5, s8, s9, s12, s13, rfl⟩
        rw [List.take_length]
        simp only [↓evd, evu, evl, Nat.reduceAdd, Nat.reduceSub, Nat.reduceLeDiff, Nat.reduceEqDiff, Nat.zero_le, Nat.le_refl, Nat.zero_add, Nat.add_zero, Int.reduceEq, Int.reduceLE, Int.reduceLT, Int.reduceAdd, Int.reduceSub, Int.reduceMul, Int.reduceNeg, Int.cast_ofNat_Int, Int.natCast_add, Int.natCast_zero, Int.natCast_one, me_j, rj']
        exact W_ok.mpr ⟨rfl, rfl⟩
end
end Rm
set_option Elab.async false
set_option linter.all false
set_option autoImplicit false
set_option maxRecDepth 100000
/-! the rows of a text, read -/
namespace Rm
open Kp
mutual
theorem gd_okV (h : LH) : ∀ t : T, gdT t = true → okV h t = true
  | .tup xs, g => by rw [okV]; exact gd_okVs h xs (by rwa [gdT] at g)
  | .ref _, g => by simp [gdT] at g
  | .fn _, g => by simp [gdT] at g
  | .non, _ => rfl
  | .bl _, _ => rfl
  | .int _, _ => rfl
  | .str _, _ => rfl
  | .fl _, _ => rfl
theorem gd_okVs (h : LH) : ∀ xs : List T, gdTs xs = true → okVs h xs = true
  | [], _ => rfl
  | x :: xs, g => by
    rw [gdTs, Bool.and_eq_true] at g
    rw [okVs, gd_okV h x g.1, gd_okVs h xs g.2]; rfl
end
theorem nm_gd {t : T} (h : nmT t = true) : gdT t = true := by
  obtain ⟨s, rfl⟩ := nm_strT h
  simp only [nmT, Bool.and_eq_true] at h
  rw [gdT, List.all_eq_true]
  intro c hc
  have := List.all_eq_true.mp h.2 c hc
  simp only [lowB, decide_eq_true_eq] at this
  refine decide_eq_true ?_
  have z : ∀ c ∈ LET, c < 0x110000 := by decide
  exact z c this
theorem tab_gd {t : T} (h : TabN t) : gdT t = true := by
  obtain ⟨rs, rfl, _, nr⟩ := h
  rw [gdT]; exact gd_all fun r hr => (row_gd (nr r hr)).1
theorem gd_4 {a b c d : T} (h1 : gdT a = true) (h2 : gdT b = true) (h3 : gdT c = true) (h4 : gdT d = true) : gdT (.tup [a, b, c, d]) = true := by
  simp [gdT, gdTs, h1, h2, h3, h4]
theorem house_gd {x : T} (h : houseB x = true) : gdT x = true := by
  obtain ⟨a, b, c, d, rfl, nm, n1, n2, tb⟩ := house_n h
  exact gd_4 (nm_gd nm) (num_gd n1) (num_gd n2) (tab_gd tb)
theorem stretch_gd {x : T} (h : stretchB x = true) : gdT x = true := by
  obtain ⟨a, b, c, d, rfl, nm, n1, n2, tb⟩ := stretch_n h
  exact gd_4 (nm_gd nm) (num_gd n1) (nm_gd n2) (tab_gd tb)
theorem lands_ne {a b c d : T} (h : houseB (.tup [a, b, c, d]) = true) : 1 ≤ (tabW d).length := by
  simp only [houseB, Bool.and_eq_true] at h
  have l := h.2
  unfold landsB tabB at l
  split at l
  · simp only [Bool.and_eq_true, decide_eq_true_eq] at l
    rw [tabW, List.length_map]
    omega
  · cases l
/-! ### words of a row -/
theorem at_j {xs : List T} {j : Nat} {t : T} (e : xs[j]? = some t) : atT xs (j : Int) = some t := L2.atI_nat e
theorem cut_drop {α : Type} (xs : List α) (k : Nat) (l : k ≤ xs.length) : cutT xs (some (k : Int)) none = xs.drop k := by
  have e : HT.sIx xs.length 0 (some (k : Int)) = k := by
    simp only [HT.sIx]
    rw [if_neg (by omega)]
    omega
  have e2 : HT.sIx xs.length xs.length none = xs.length := rfl
  simp only [cutT, e, e2]
  rw [List.take_of_length_le]
  simp
theorem is_non (t : T) (h : LH) : cmpD .is (.s t) (.s .non) h = some (decide (D.s t = D.s .non)) := rfl
section
variable {P : Pg} {n : Nat} {h : LH}
theorem fin0_ok (H : HasTxt P) (HR : HasRoll P) (t : T) (tb : TabN t) (f : fieldB 0 t = true) : callF P (n + 6) 34 [.s (.int 0), .s (.str (joinC [32] (wSteps :: tabW t)))] h = .ok (.s t) h := by
  have sp := (steps_row tb).split h
  have fk := field_ok (n := n) HR 0 t (gd_okV h t (tab_gd tb))
  rw [f] at fk
  have ti := tablein_ok (n := n + 2) (h := h) H t tb
  have g27 := H.gl 27 (by decide) (t := .tup HEADS) rfl
  have x0 : atT ((wSteps :: tabW t).map T.str) 0 = some (.str wSteps) := at_j (j := 0) rfl
  have y0 : atT HEADS 0 = some (.str wSteps) := at_j (j := 0) rfl
  have s1 : cutT ((wSteps :: tabW t).map T.str) (some 1) none = (tabW t).map T.str := cut_drop _ 1 (by simp)
  have nn : ¬ (D.s t = D.s .non) := by obtain ⟨rs, rfl, _⟩ := tb; intro e; cases e
  rw [call_eq (H.df 34 (by decide) rfl) rfl, p_field_in]
  simp only [↓evd, evu, evl, Nat.reduceAdd, Nat.reduceSub, Nat.reduceLeDiff, Nat.reduceEqDiff, Nat.zero_le, Nat.le_refl, Nat.zero_add, Nat.add_zero, Int.reduceEq, Int.reduceLE, Int.reduceLT, Int.reduceAdd, Int.reduceSub, Int.reduceMul, Int.reduceNeg, Int.cast_ofNat_Int, Int.natCast_add, Int.natCast_zero, Int.natCast_one, sp, me_s, sl_vw, g27, x0, y0, s1, ti, is_non, nn, fk]
theorem fin1_ok (H : HasTxt P) (HR : HasRoll P) (t : T) (tb : RowN t) (f : fieldB 1 t = true) : callF P (n + 6) 34 [.s (.int 1), .s (.str (joinC [32] [wTeam, colT t]))] h = .ok (.s t) h := by
  have sp := (two_ok (a := wTeam) ⟨by decide, by decide, by decide⟩ (word_row tb)).split h
  have fk := field_ok (n := n) HR 1 t (gd_okV h t (row_gd tb).1)
  rw [f] at fk
  have ti := numbers_ok (n := n + 3) (h := h) H t tb
  have g27 := H.gl 27 (by decide) (t := .tup HEADS) rfl
  have x0 : atT ([wTeam, colT t].map T.str) 0 = some (.str wTeam) := at_j (j := 0) rfl
  have x1 : atT ([wTeam, colT t].map T.str) 1 = some (.str (colT t)) := at_j (j := 1) rfl
  have y0 : atT HEADS 1 = some (.str wTeam) := at_j (j := 1) rfl
  have bl : biLen h (.vw ([wTeam, colT t].map T.str)) = some (.s (.int 2)) := rfl
  have nn : ¬ (D.s t = D.s .non) := by obtain ⟨rs, rfl, _⟩ := tb; intro e; cases e
  rw [call_eq (H.df 34 (by decide) rfl) rfl, p_field_in]
  simp only [↓evd, evu, evl, Nat.reduceAdd, Nat.reduceSub, Nat.reduceLeDiff, Nat.reduceEqDiff, Nat.zero_le, Nat.le_refl, Nat.zero_add, Nat.add_zero, Int.reduceEq, Int.reduceLE, Int.reduceLT, Int.reduceAdd, Int.reduceSub, Int.reduceMul, Int.reduceNeg, Int.cast_ofNat_Int, Int.natCast_add, Int.natCast_zero, Int.natCast_one, sp, me_s, sl_vw, g27, x0, x1, y0, bl, ti, is_non, nn, fk]
theorem finK_ok (H : HasTxt P) (HR : HasRoll P) (k : Nat) (k0 : 2 ≤ k) (w : List Nat) (ok : WordOk w) (hk : HEADS[k]? = some (.str w)) (t : T) (tb : NumT t) (f : fieldB k t = true) : callF P (n + 6) 34 [.s (.int k), .s (.str (joinC [32] [w, strT t]))] h = .ok (.s t) h := by
  have sp := (two_ok (a := w) ok (word_num tb)).split h
  have fk := field_ok (n := n) HR k t (gd_okV h t (num_gd tb))
  rw [f] at fk
  have g27 := H.gl 27 (by decide) (t := .tup HEADS) rfl
  have x0 : atT ([w, strT t].map T.str) 0 = some (.str w) := at_j (j := 0) rfl
  have x1 : atT ([w, strT t].map T.str) 1 = some (.str (strT t)) := at_j (j := 1) rfl
  have y0 : atT HEADS (k : Int) = some (.str w) := at_j hk
  have bl : biLen h (.vw ([w, strT t].map T.str)) = some (.s (.int 2)) := rfl
  have z0 : ¬ ((k : Int) = 0) := by omega
  have z1 : ¬ ((k : Int) = 1) := by omega
  have nn : ¬ (D.s t = D.s .non) := by obtain ⟨m, rfl, _⟩ := tb; intro e; cases e
  obtain ⟨m, rfl, lm⟩ := tb
  have ti := number_ok (n := n + 4) (h := h) H m lm
  change callF P _ 31 [.s (.str (strT (.int m)))] h = _ at ti
  rw [call_eq (H.df 34 (by decide) rfl) rfl, p_field_in]
  generalize strT (.int m) = q at *
  simp only [↓evd, evu, evl, Nat.reduceAdd, Nat.reduceSub, Nat.reduceLeDiff, Nat.reduceEqDiff, Nat.zero_le, Nat.le_refl, Nat.zero_add, Nat.add_zero, Int.reduceEq, Int.reduceLE, Int.reduceLT, Int.reduceAdd, Int.reduceSub, Int.reduceMul, Int.reduceNeg, Int.cast_ofNat_Int, Int.natCast_add, Int.natCast_zero, Int.natCast_one, sp, me_s, sl_vw, g27, x0, x1, y0, bl, z0, z1, ti, is_non, nn, fk]
theorem housein_ok (H : HasTxt P) (HR : HasRoll P) (x : T) (hx : houseB x = true) : callF P (n + 6) 36 [.s (.str (joinC [32] (hrow x)))] h = .ok (.s x) h := by
  have sp := (hrow_ok hx).split h
  have fk := house_ok (n := n) HR x (gd_okV h x (house_gd hx))
  rw [hx] at fk
  obtain ⟨a, b, c, d, rfl, nm, n1, n2, tb⟩ := house_n hx
  have ln := lands_ne hx
  obtain ⟨aw, rfl⟩ := nm_strT nm
  obtain ⟨m1, rfl, l1⟩ := n1
  obtain ⟨m2, rfl, l2⟩ := n2
  have e : hrow (.tup [.str aw, .int m1, .int m2, d]) = wHouse :: aw :: txtI m1 :: txtI m2 :: tabW d := rfl
  rw [e] at sp ⊢
  generalize hw : (wHouse :: aw :: txtI m1 :: txtI m2 :: tabW d).map T.str = ws at sp
  have x0 : atT ws 0 = some (.str wHouse) := at_j (j := 0) (by rw [← hw]; rfl)
  have x1 : atT ws 1 = some (.str aw) := at_j (j := 1) (by rw [← hw]; rfl)
  have x2 : atT ws 2 = some (.str (txtI m1)) := at_j (j := 2) (by rw [← hw]; rfl)
  have x3 : atT ws 3 = some (.str (txtI m2)) := at_j (j := 3) (by rw [← hw]; rfl)
  have lw : 5 ≤ ws.length := by rw [← hw]; simp only [List.map_cons, List.length_cons, List.length_map]; omega
  have s4 : cutT ws (some 4) none = ws.drop 4 := cut_drop _ 4 (by omega)
  have dr : ws.drop 4 = (tabW d).map T.str := by rw [← hw]; rfl
  rw [dr] at s4
  have bl : biLen h (.vw ws) = some (.s (.int ws.length)) := rfl
  have c5 : ¬ ((ws.length : Int) < 5) := by omega
  have ti := tablein_ok (n := n + 2) (h := h) H d tb
  have k1 := number_ok (n := n + 4) (h := h) H m1 l1
  have k2 := number_ok (n := n + 4) (h := h) H m2 l2
  rw [call_eq (H.df 36 (by decide) rfl) rfl, p_house_in]
  simp only [↓evd, evu, evl, Nat.reduceAdd, Nat.reduceSub, Nat.reduceLeDiff, Nat.reduceEqDiff, Nat.zero_le, Nat.le_refl, Nat.zero_add, Nat.add_zero, Int.reduceEq, Int.reduceLE, Int.reduceLT, Int.reduceAdd, Int.reduceSub, Int.reduceMul, Int.reduceNeg, Int.cast_ofNat_Int, Int.natCast_add, Int.natCast_zero, Int.natCast_one, sp, me_s, sl_vw, x0, x1, x2, x3, s4, bl, c5, ti, k1, k2, fk]
theorem stretchin_ok (H : HasTxt P) (HR : HasRoll P) (x : T) (hx : stretchB x = true) : callF P (n + 6) 37 [.s (.str (joinC [32] (srow x)))] h = .ok (.s x) h := by
  have sp := (srow_ok hx).split h
  have fk := stretch_ok (n := n + 1) HR x (gd_okV h x (stretch_gd hx))
  rw [hx] at fk
  obtain ⟨a, b, c, d, rfl, nm, n1, n2, tb⟩ := stretch_n hx
  obtain ⟨aw, rfl⟩ := nm_strT nm
  obtain ⟨m1, rfl, l1⟩ := n1
  obtain ⟨cw, rfl⟩ := nm_strT n2
  have e : srow (.tup [.str aw, .int m1, .str cw, d]) = wStretch :: aw :: txtI m1 :: cw :: tabW d := rfl
  rw [e] at sp ⊢
  generalize hw : (wStretch :: aw :: txtI m1 :: cw :: tabW d).map T.str = ws at sp
  have x0 : atT ws 0 = some (.str wStretch) := at_j (j := 0) (by rw [← hw]; rfl)
  have x1 : atT ws 1 = some (.str aw) := at_j (j := 1) (by rw [← hw]; rfl)
  have x2 : atT ws 2 = some (.str (txtI m1)) := at_j (j := 2) (by rw [← hw]; rfl)
  have x3 : atT ws 3 = some (.str cw) := at_j (j := 3) (by rw [← hw]; rfl)
  have lw : 4 ≤ ws.length := by rw [← hw]; simp only [List.map_cons, List.length_cons, List.length_map]; omega
  have s4 : cutT ws (some 4) none = ws.drop 4 := cut_drop _ 4 (by omega)
  have dr : ws.drop 4 = (tabW d).map T.str := by rw [← hw]; rfl
  rw [dr] at s4
  have bl : biLen h (.vw ws) = some (.s (.int ws.length)) := rfl
  have c5 : ¬ ((ws.length : Int) < 4) := by omega
  have ti := tablein_ok (n := n + 2) (h := h) H d tb
  have k1 := number_ok (n := n + 4) (h := h) H m1 l1
  rw [call_eq (H.df 37 (by decide) rfl) rfl, p_stretch_in]
  simp only [↓evd, evu, evl, Nat.reduceAdd, Nat.reduceSub, Nat.reduceLeDiff, Nat.reduceEqDiff, Nat.zero_le, Nat.le_refl, Nat.zero_add, Nat.add_zero, Int.reduceEq, Int.reduceLE, Int.reduceLT, Int.reduceAdd, Int.reduceSub, Int.reduceMul, Int.reduceNeg, Int.cast_ofNat_Int, Int.natCast_add, Int.natCast_zero, Int.natCast_one, sp, me_s, sl_vw, x0, x1, x2, x3, s4, bl, c5, ti, k1, fk]
end
end Rm
set_option Elab.async false
set_option linter.all false
set_option autoImplicit false
set_option maxRecDepth 100000
/-! sorted ints, dicts of ints -/
namespace Rm
theorem ins_mem (x y : Int) : ∀ xs : List Int, y ∈ insI x xs ↔ y = x ∨ y ∈ xs
  | [] => by simp [insI]
  | z :: zs => by
    simp only [insI]
    split
    · simp
    · simp only [List.mem_cons, ins_mem x y zs]
      constructor
      · rintro (h | h | h) <;> simp [h]
      · rintro (h | h | h) <;> simp [h]
theorem ins_len (x : Int) : ∀ xs : List Int, (insI x xs).length = xs.length + 1
  | [] => rfl
  | z :: zs => by
    simp only [insI]
    split
    · rfl
    · simp [ins_len x zs]
theorem srt_mem (y : Int) : ∀ xs : List Int, y ∈ srtI xs ↔ y ∈ xs
  | [] => by simp [srtI]
  | z :: zs => by simp [srtI, ins_mem, srt_mem y zs]
theorem srt_len : ∀ xs : List Int, (srtI xs).length = xs.length
  | [] => rfl
  | z :: zs => by simp [srtI, ins_len, srt_len zs]
theorem ins_lt (x : Int) : ∀ xs : List Int, xs.Pairwise (· < ·) → x ∉ xs → (insI x xs).Pairwise (· < ·)
  | [], _, _ => by simp [insI]
  | z :: zs, p, nx => by
    have nz : x ≠ z := fun e => nx (by simp [e])
    rw [List.pairwise_cons] at p
    simp only [insI]
    split
    · rename_i le
      refine List.pairwise_cons.mpr ⟨?_, List.pairwise_cons.mpr p⟩
      intro a ha
      rcases List.mem_cons.mp ha with rfl | ha
      · omega
      · have := p.1 a ha; omega
    · rename_i le
      refine List.pairwise_cons.mpr ⟨?_, ins_lt x zs p.2 fun h => nx (List.mem_cons_of_mem _ h)⟩
      intro a ha
      rcases (ins_mem x a zs).mp ha with rfl | ha
      · omega
      · exact p.1 a ha
theorem srt_lt : ∀ xs : List Int, xs.Nodup → (srtI xs).Pairwise (· < ·)
  | [], _ => List.Pairwise.nil
  | z :: zs, d => by
    rw [List.nodup_cons] at d
    exact ins_lt z _ (srt_lt zs d.2) fun h => d.1 ((srt_mem z zs).mp h)
theorem srt_head {xs : List Int} (p : xs.Pairwise (· < ·)) (h0 : (0 : Int) ∈ xs) (ge : ∀ x ∈ xs, 0 ≤ x) : ∃ r, xs = 0 :: r := by
  cases xs with
  | nil => cases h0
  | cons a r =>
    rw [List.pairwise_cons] at p
    rcases List.mem_cons.mp h0 with h | h
    · exact ⟨r, by rw [h]⟩
    · have := p.1 0 h
      have := ge a (List.mem_cons_self ..)
      omega
/-- a dict of numbers, each True -/
def dTr (ks : List Int) : List (T × T) := ks.map fun k => (.int k, .bl true)
def putI (ks : List Int) (v : Int) : List Int := if v ∈ ks then ks else ks ++ [v]
theorem put_tr (ks : List Int) (v : Int) : putT (.int v) (.bl true) (dTr ks) = dTr (putI ks v) := by
  have e : ((dTr ks).any fun p => decide (p.1 = T.int v)) = decide (v ∈ ks) := by
    rw [Bool.eq_iff_iff]
    simp [dTr]
  unfold putT putI
  rw [e]
  by_cases z : v ∈ ks
  · simp only [z, decide_true, if_true, dTr, List.map_map]
    refine List.map_congr_left fun k hk => ?_
    simp only [Function.comp]
    split <;> rfl
  · simp [z, dTr]
theorem ints_tr (ks : List Int) : intsOf ((dTr ks).map fun p => p.1) = some ks := by
  induction ks with
  | nil => rfl
  | cons k ks ih =>
    simp only [dTr, List.map_cons, intsOf] at ih ⊢
    rw [ih]; rfl
theorem putI_len (ks : List Int) (v : Int) : (putI ks v).length ≤ ks.length + 1 := by
  unfold putI; split <;> simp
theorem putI_mem {ks : List Int} {v x : Int} : x ∈ putI ks v ↔ x ∈ ks ∨ x = v := by
  unfold putI
  split
  · rename_i z
    constructor
    · exact .inl
    · rintro (h | rfl)
      · exact h
      · exact z
  · simp
theorem putI_nodup {ks : List Int} {v : Int} (d : ks.Nodup) : (putI ks v).Nodup := by
  unfold putI
  split
  · exact d
  · rename_i z
    rw [List.nodup_append]
    refine ⟨d, by simp, ?_⟩
    intro a ha b hb
    rw [List.mem_singleton.mp hb]
    rintro rfl
    exact z ha
/-- each once -/
def onceI (ds : List Int) : List Int := ds.foldl putI []
theorem mrg_tr (ds : List Int) : mrg (dTr ds) = dTr (onceI ds) := by
  have : ∀ (ds acc : List Int), (dTr ds).foldl (fun acc p => putT p.1 p.2 acc) (dTr acc) = dTr (ds.foldl putI acc) := by
    intro ds
    induction ds with
    | nil => intro acc; rfl
    | cons d ds ih =>
      intro acc
      show (dTr ds).foldl _ (putT (.int d) (.bl true) (dTr acc)) = _
      rw [put_tr, ih]
      rfl
  exact this ds []
theorem once_mem {x : Int} (ds : List Int) : x ∈ onceI ds ↔ x ∈ ds := by
  have : ∀ (ds acc : List Int), x ∈ ds.foldl putI acc ↔ x ∈ acc ∨ x ∈ ds := by
    intro ds
    induction ds with
    | nil => intro acc; simp
    | cons d ds ih =>
      intro acc
      rw [List.foldl_cons, ih, putI_mem, List.mem_cons, or_assoc]
  rw [onceI, this]; simp
theorem once_nd (ds : List Int) : (onceI ds).Nodup := by
  have : ∀ (ds acc : List Int), acc.Nodup → (ds.foldl putI acc).Nodup := by
    intro ds
    induction ds with
    | nil => intro acc h; exact h
    | cons d ds ih => intro acc h; exact ih _ (putI_nodup h)
  exact this ds [] List.nodup_nil
theorem once_len (ds : List Int) : (onceI ds).length ≤ ds.length := by
  have : ∀ (ds acc : List Int), (ds.foldl putI acc).length ≤ acc.length + ds.length := by
    intro ds
    induction ds with
    | nil => intro acc; simp
    | cons d ds ih =>
      intro acc
      have := ih (putI acc d)
      have := putI_len acc d
      rw [List.foldl_cons, List.length_cons]; omega
  have := this ds []
  rw [List.length_nil, Nat.zero_add] at this
  exact this
theorem prs_tr : ∀ ds : List Int, prsT (ds.map fun d => .tup [.int d, .bl true]) = some (dTr ds)
  | [] => rfl
  | d :: ds => by
    have := prs_tr ds
    simp only [List.map_cons, prsT, keyB, if_true, this]
    rfl
/-- sorted(dict([(d, True) for d in ds])) -/
theorem bi_dict (ds : List Int) (h : LH) : biD .dict [.tl (ds.map fun d => T.tup [.int d, .bl true])] h = some (.dt false (dTr (onceI ds))) := by
  show biDict h (.tl (ds.map fun d => T.tup [.int d, .bl true])) = _
  simp only [biDict, lstOf, prs_tr, Option.map_some, mrg_tr]
theorem bi_srt (ks : List Int) (h : LH) (l : ks.length < 64) : biD .sorted [.dt false (dTr ks)] h = some (.tl ((srtI ks).map T.int)) := by
  show biSort h (.dt false (dTr ks)) = _
  simp only [biSort, dctOf, ints_tr, decide_eq_true l, if_true]
  rfl
/-- item by item -/
def Rel2 (r : T → T → Prop) : List T → List T → Prop
  | [], [] => True
  | x :: xs, y :: ys => r x y ∧ Rel2 r xs ys
  | _, _ => False
theorem lc_rel {f : T → LH → R (Option T)} {gd : LH → Bool} {I : Nat → LH → Prop} {r : T → T → Prop} (c : Nat) (hg : ∀ k h, I k h → gd h = true) (xs : List T) (h : LH) (b : Nat) (i : I (b + c * xs.length) h)
    (st : ∀ x ∈ xs, ∀ b h, I (b + c) h → (f x h).W (fun o h' => ∃ t, o = some t ∧ r x t ∧ I b h') fx) : (lcL f gd xs [] h).W (fun ts h' => Rel2 r xs ts ∧ I b h') fx := by
  suffices H : ∀ (xs acc : List T) (h : LH), I (b + c * xs.length) h → (∀ x ∈ xs, ∀ b h, I (b + c) h → (f x h).W (fun o h' => ∃ t, o = some t ∧ r x t ∧ I b h') fx) →
      (lcL f gd xs acc h).W (fun ts h' => (∃ ys, ts = acc ++ ys ∧ Rel2 r xs ys) ∧ I b h') fx by
    refine W_mono (H xs [] h i st) fun a h q => ⟨?_, q.2⟩
    obtain ⟨ys, e, q⟩ := q.1
    rw [e]; exact q
  intro xs
  induction xs with
  | nil =>
    intro acc h i st
    unfold lcL; rw [if_pos (hg _ _ i)]
    exact W_ok.mpr ⟨⟨[], by simp, trivial⟩, i⟩
  | cons x xs ih =>
    intro acc h i st
    unfold lcL; rw [if_pos (hg _ _ i)]
    have i0 : I ((b + c * xs.length) + c) h := by
      have e : b + c * (x :: xs).length = (b + c * xs.length) + c := by rw [List.length_cons, Nat.mul_succ]; omega
      rw [← e]; exact i
    obtain ⟨o, h', e, t, rfl, pt, i'⟩ := st x (List.mem_cons_self ..) (b + c * xs.length) h i0
    rw [e]
    refine W_mono (ih (acc ++ [t]) h' i' fun y hy => st y (List.mem_cons_of_mem _ hy)) fun a h q => ⟨?_, q.2⟩
    obtain ⟨ys, e, q⟩ := q.1
    exact ⟨t :: ys, by rw [e]; simp, pt, q⟩
theorem Rel2.len {r : T → T → Prop} : ∀ {xs ys : List T}, Rel2 r xs ys → ys.length = xs.length
  | [], [], _ => rfl
  | x :: xs, y :: ys, h => by simp [Rel2.len h.2]
  | [], _ :: _, h => h.elim
  | _ :: _, [], h => h.elim
theorem Rel2.get {r : T → T → Prop} : ∀ {xs ys : List T}, Rel2 r xs ys → ∀ y ∈ ys, ∃ x ∈ xs, r x y
  | [], [], _, y, hy => nomatch hy
  | x :: xs, z :: ys, h, y, hy => by
    rcases List.mem_cons.mp hy with rfl | hy
    · exact ⟨x, List.mem_cons_self .., h.1⟩
    · obtain ⟨x', hx, hr⟩ := Rel2.get h.2 y hy
      exact ⟨x', List.mem_cons_of_mem _ hx, hr⟩
  | [], _ :: _, h, _, _ => h.elim
  | _ :: _, [], h, _, _ => h.elim
theorem rel_map {α : Type} {r : T → T → Prop} {f : α → T} {P : α → Prop} : ∀ {xs ys : List T}, Rel2 r xs ys → (∀ x y, r x y → ∃ a, y = f a ∧ P a) → ∃ as : List α, ys = as.map f ∧ as.length = xs.length ∧ ∀ a ∈ as, P a
  | [], [], _, _ => ⟨[], rfl, rfl, (fun _ h => nomatch h)⟩
  | x :: xs, y :: ys, h, k => by
    obtain ⟨a, rfl, pa⟩ := k x y h.1
    obtain ⟨as, rfl, l, pas⟩ := rel_map h.2 k
    refine ⟨a :: as, rfl, by simp [l], fun b hb => ?_⟩
    rcases List.mem_cons.mp hb with rfl | hb
    · exact pa
    · exact pas b hb
  | [], _ :: _, h, _ => h.elim
  | _ :: _, [], h, _ => h.elim
end Rm
set_option Elab.async false
set_option linter.all false
set_option autoImplicit false
set_option maxRecDepth 100000
/-! tables of ints -/
namespace Rm
def emb (p : Int × Int) : T × T := (.int p.1, .int p.2)
def ptT (p : Int × Int) : T := .tup [.int p.1, .int p.2]
theorem prs_emb : ∀ ps : List (Int × Int), prsI ((ps.map emb).map fun p => .tup [p.1, p.2]) = some ps
  | [] => rfl
  | p :: ps => by
    have := prs_emb ps
    simp only [List.map_cons, emb, prsI] at this ⊢
    rw [this]; rfl
theorem lx_iff {p q : Int × Int} : lexP p q = true ↔ p.1 < q.1 ∨ (p.1 = q.1 ∧ p.2 < q.2) := by simp [lexP]
theorem lx_no {p q : Int × Int} : lexP p q = false ↔ ¬ (p.1 < q.1 ∨ (p.1 = q.1 ∧ p.2 < q.2)) := by rw [← lx_iff, Bool.not_eq_true]
theorem ip_perm (x : Int × Int) : ∀ l : List (Int × Int), (insP x l).Perm (x :: l)
  | [] => List.Perm.refl _
  | y :: l => by
    unfold insP
    split
    · exact ((ip_perm x l).cons y).trans (List.Perm.swap x y l)
    · exact List.Perm.refl _
theorem sp_perm : ∀ l : List (Int × Int), (srtP l).Perm l
  | [] => List.Perm.refl _
  | x :: l => (ip_perm x _).trans ((sp_perm l).cons x)
theorem ip_srt (x : Int × Int) : ∀ l : List (Int × Int), l.Pairwise (fun e f => e.1 ≤ f.1) → (insP x l).Pairwise (fun e f => e.1 ≤ f.1)
  | [], _ => by simp [insP]
  | y :: l, h => by
    unfold insP
    have h' := List.pairwise_cons.mp h
    split
    · rename_i q
      rw [List.pairwise_cons]
      refine ⟨fun z hz => ?_, ip_srt x l h'.2⟩
      rcases List.mem_cons.mp ((ip_perm x l).mem_iff.mp hz) with rfl | hz
      · have := lx_iff.mp q; omega
      · exact h'.1 z hz
    · rename_i q
      have q := lx_no.mp (Bool.eq_false_iff.mpr q)
      rw [List.pairwise_cons]
      refine ⟨fun z hz => ?_, h⟩
      rcases List.mem_cons.mp hz with rfl | hz
      · omega
      · have := h'.1 z hz; omega
theorem sp_srt : ∀ l : List (Int × Int), (srtP l).Pairwise (fun e f => e.1 ≤ f.1)
  | [] => List.Pairwise.nil
  | x :: l => ip_srt x _ (sp_srt l)
theorem sp_lt {l : List (Int × Int)} (nd : (l.map Prod.fst).Nodup) : (srtP l).Pairwise (fun e f => e.1 < f.1) := by
  have nd' : ((srtP l).map Prod.fst).Nodup := ((sp_perm l).map Prod.fst).nodup_iff.mpr nd
  rw [List.Nodup, List.pairwise_map] at nd'
  refine List.Pairwise.imp₂ (fun a b h1 h2 => ?_) (sp_srt l) nd'
  omega
/-- a table: rising from 0 -/
structure TbOk (most bound : Int) (qs : List (Int × Int)) : Prop where
  lt : qs.Pairwise (fun e f => e.1 < f.1)
  z : ∃ v r, qs = (0, v) :: r
  bd : ∀ p ∈ qs, 0 ≤ p.1 ∧ p.1 ≤ most ∧ 0 ≤ p.2 ∧ p.2 ≤ bound
def tbT (qs : List (Int × Int)) : T := .tup (qs.map ptT)
theorem ris_pt : ∀ {qs : List (Int × Int)}, qs.Pairwise (fun e f => e.1 < f.1) → risB ((qs.map ptT).map fstT) = true
  | [], _ => rfl
  | [a], _ => rfl
  | a :: b :: r, p => by
    have q := List.pairwise_cons.mp p
    have := ris_pt q.2
    simp only [List.map_cons] at this ⊢
    simp only [ptT, fstT, risB] at this ⊢
    rw [this, Bool.and_true, decide_eq_true_eq]
    exact q.1 b (List.mem_cons_self ..)
theorem TbOk.tab {most bound M : Int} {qs : List (Int × Int)} (t : TbOk most bound qs) (l : (qs.length : Int) ≤ M) : tabB (fun t => amT t 0 most) (fun t => amT t 0 bound) 1 M (tbT qs) = true := by
  obtain ⟨v, r, e⟩ := t.z
  have l1 : 1 ≤ qs.length := by rw [e]; simp
  have al : (qs.map ptT).all (prB (fun t => amT t 0 most) fun t => amT t 0 bound) = true := by
    rw [List.all_map, List.all_eq_true]
    intro p hp
    have b := t.bd p hp
    simp [prB, ptT, Function.comp, am_int b.1 b.2.1, am_int b.2.2.1 b.2.2.2]
  unfold tabB tbT
  dsimp only
  rw [al, ris_pt t.lt]
  rw [List.length_map]
  subst e
  simp only [List.map_cons, ptT, fstT, decide_true, Bool.and_true, Bool.and_eq_true, decide_eq_true_eq]
  omega
theorem ris_inv : ∀ {qs : List (Int × Int)}, risB ((qs.map ptT).map fstT) = true → qs.Pairwise (fun e f => e.1 < f.1)
  | [], _ => .nil
  | [a], _ => List.pairwise_singleton _ _
  | a :: b :: r, p => by
    simp only [List.map_cons, ptT, fstT, risB, Bool.and_eq_true, decide_eq_true_eq] at p
    have q := ris_inv (qs := b :: r) (by simpa [ptT, fstT] using p.2)
    refine List.pairwise_cons.mpr ⟨fun z hz => ?_, q⟩
    rcases List.mem_cons.mp hz with rfl | hz
    · exact p.1
    · have := (List.pairwise_cons.mp q).1 z hz
      omega
theorem prs_inv {most bound : Int} : ∀ {xs : List T}, xs.all (prB (fun t => amT t 0 most) fun t => amT t 0 bound) = true → ∃ qs : List (Int × Int), xs = qs.map ptT ∧ ∀ p ∈ qs, 0 ≤ p.1 ∧ p.1 ≤ most ∧ 0 ≤ p.2 ∧ p.2 ≤ bound
  | [], _ => ⟨[], rfl, (fun _ h => nomatch h)⟩
  | x :: xs, a => by
    rw [List.all_cons, Bool.and_eq_true] at a
    obtain ⟨qs, e, b⟩ := prs_inv a.2
    have ax := a.1
    unfold prB at ax
    split at ax
    · rename_i u w
      rw [Bool.and_eq_true] at ax
      obtain ⟨i, rfl, i0, i1⟩ := am_inv ax.1
      obtain ⟨j, rfl, j0, j1⟩ := am_inv ax.2
      refine ⟨(i, j) :: qs, by rw [e]; rfl, fun p hp => ?_⟩
      rcases List.mem_cons.mp hp with rfl | hp
      · exact ⟨i0, i1, j0, j1⟩
      · exact b p hp
    · cases ax
theorem tab_inv {most bound M : Int} {t : T} (h : tabB (fun t => amT t 0 most) (fun t => amT t 0 bound) 1 M t = true) : ∃ qs, t = tbT qs ∧ TbOk most bound qs ∧ (qs.length : Int) ≤ M := by
  unfold tabB at h
  split at h
  · rename_i xs
    simp only [Bool.and_eq_true, decide_eq_true_eq] at h
    obtain ⟨⟨⟨⟨l0, l1⟩, al⟩, ri⟩, hz⟩ := h
    obtain ⟨qs, rfl, bd⟩ := prs_inv al
    rw [List.length_map] at l0 l1
    refine ⟨qs, rfl, ⟨ris_inv ri, ?_, bd⟩, l1⟩
    cases qs with
    | nil => simp at l0
    | cons p r =>
      simp only [List.map_cons, ptT, fstT, decide_eq_true_eq] at hz
      have hz := of_decide_eq_true hz
      injection hz with hz
      exact ⟨p.2, r, by rw [← hz]⟩
  · cases h
/-- a dict as it is filled -/
structure DOk (most bound : Int) (ps : List (Int × Int)) : Prop where
  nd : (ps.map Prod.fst).Nodup
  z : ∃ p ∈ ps, p.1 = 0
  bd : ∀ p ∈ ps, 0 ≤ p.1 ∧ p.1 ≤ most ∧ 0 ≤ p.2 ∧ p.2 ≤ bound
theorem DOk.srt {most bound : Int} {ps : List (Int × Int)} (d : DOk most bound ps) : TbOk most bound (srtP ps) := by
  have lt := sp_lt d.nd
  have bd : ∀ p ∈ srtP ps, 0 ≤ p.1 ∧ p.1 ≤ most ∧ 0 ≤ p.2 ∧ p.2 ≤ bound := fun p hp => d.bd p ((sp_perm ps).mem_iff.mp hp)
  refine ⟨lt, ?_, bd⟩
  obtain ⟨p, hp, e⟩ := d.z
  have hp' := (sp_perm ps).mem_iff.mpr hp
  cases q : srtP ps with
  | nil => rw [q] at hp'; cases hp'
  | cons a r =>
    rw [q] at hp' lt bd
    rcases List.mem_cons.mp hp' with rfl | hr
    · exact ⟨p.2, r, by rw [← e]⟩
    · have := (List.pairwise_cons.mp lt).1 p hr
      have := bd a (List.mem_cons_self ..)
      omega
def putP (k v : Int) (ps : List (Int × Int)) : List (Int × Int) := if (ps.any fun p => decide (p.1 = k)) = true then ps.map (fun p => if p.1 = k then (p.1, v) else p) else ps ++ [(k, v)]
theorem put_emb (k v : Int) (ps : List (Int × Int)) : putT (.int k) (.int v) (ps.map emb) = (putP k v ps).map emb := by
  have e : ((ps.map emb).any fun p => decide (p.1 = T.int k)) = ps.any fun p => decide (p.1 = k) := by
    rw [List.any_map]
    congr 1
    funext p
    simp [emb]
  unfold putT putP
  rw [e]
  split
  · rw [List.map_map, List.map_map]
    refine List.map_congr_left fun p _ => ?_
    simp only [Function.comp, emb, T.int.injEq]
    split <;> rfl
  · rw [List.map_append]; rfl
theorem DOk.put {most bound k v : Int} {ps : List (Int × Int)} (d : DOk most bound ps) (k0 : 0 ≤ k) (k1 : k ≤ most) (v0 : 0 ≤ v) (v1 : v ≤ bound) : DOk most bound (putP k v ps) := by
  unfold putP
  split
  · have ef : (ps.map (fun p => if p.1 = k then (p.1, v) else p)).map Prod.fst = ps.map Prod.fst := by
      rw [List.map_map]
      refine List.map_congr_left fun p _ => ?_
      simp only [Function.comp]
      split <;> rfl
    refine ⟨by rw [ef]; exact d.nd, ?_, ?_⟩
    · obtain ⟨p, hp, e⟩ := d.z
      refine ⟨_, List.mem_map.mpr ⟨p, hp, rfl⟩, ?_⟩
      split <;> exact e
    · intro q hq
      obtain ⟨p, hp, rfl⟩ := List.mem_map.mp hq
      have := d.bd p hp
      split
      · exact ⟨this.1, this.2.1, v0, v1⟩
      · exact this
  · rename_i no
    refine ⟨?_, ?_, ?_⟩
    · rw [List.map_append, List.nodup_append]
      refine ⟨d.nd, by simp, ?_⟩
      intro a ha b hb
      simp only [List.map_cons, List.map_nil, List.mem_singleton] at hb
      subst hb
      rintro rfl
      obtain ⟨p, hp, e⟩ := List.mem_map.mp ha
      exact no (List.any_eq_true.mpr ⟨p, hp, decide_eq_true e⟩)
    · obtain ⟨p, hp, e⟩ := d.z
      exact ⟨p, List.mem_append_left _ hp, e⟩
    · intro q hq
      rcases List.mem_append.mp hq with hq | hq
      · exact d.bd q hq
      · rw [List.mem_singleton.mp hq]; exact ⟨k0, k1, v0, v1⟩
theorem putP_len (k v : Int) (ps : List (Int × Int)) : (putP k v ps).length ≤ ps.length + 1 := by
  unfold putP
  split <;> simp
theorem own_put (i : Nat) (ps : List (Int × Int)) (k v : Int) (s : Sg) (h : LH) (e : s[i]? = some (some (.dt false (ps.map emb)))) (l : ps.length < 1000) : chg (.own i) s h (fPut (.int k) (.int v)) = .nx (s.set i (some (.dt false ((putP k v ps).map emb)))) h := by
  have sz : sizeOk ((ps.map emb).length + 1) = true := decide_eq_true (by rw [List.length_map]; omega)
  simp only [chg, e, fPut, keyOk, keyB, Bool.not_false, Bool.and_self, sz, if_true, put_emb]
theorem itm_v {P : Pg} {G : Nat → List D → LH → R D} (i : Nat) (kvs : List (T × T)) (s : Sg) (h : LH) (e : s[i]? = some (some (.dt false kvs))) : evI P G (.itm (.v i)) s h = .ok (kvs.map (fun p => .tup [p.1, p.2]), []) h := by
  rw [evI, evE]
  simp only [e, lend, bd_ok, dctOf, Bool.false_eq_true, if_false]
end Rm
set_option Elab.async false
set_option linter.all false
set_option maxRecDepth 100000
namespace K31
open Rm Kp
/-- 1000: _law_cell_at(_law_script, _law_k): slots 0 _law_script 1 _law_k -/
def l_law_cell_at : Df := { np := 2, ns := 2, body := [.iff (.cmp .lt (.v 1) (.bi .len [.v 0])) [.ret (.ix (.v 0) (.v 1))] [], .ret (.c (.int 0))] }
/-- 1001: _law_mixed(_law_cell, _law_k): slots 0 _law_cell 1 _law_k -/
def l_law_mixed : Df := { np := 2, ns := 2, body := [.set true 0 (.bin .mod (.v 0) (.c (.int 2147483647))), .ret (.bin .mod (.bin .mul (.bin .mod (.bin .add (.bin .add (.bin .mul (.v 0) (.bin .add (.c (.int 48271)) (.bin .mul (.bin .mul (.c (.int 2)) (.v 1)) (.v 1)))) (.bin .mul (.c (.int 69621)) (.v 1))) (.c (.int 11))) (.c (.int 2147483647))) (.c (.int 69621))) (.c (.int 2147483629)))] }
/-- 1002: _law_state(_law_script, _law_k): slots 0 _law_script 1 _law_k 2 _law_cell -/
def l_law_state : Df := { np := 2, ns := 3, body := [.set false 2 (.call 1000 [.v 0, .v 1]), .ret (.dsp false [.c (.str [108, 101, 102, 116]), .ite (.cmp .ge (.v 2) (.bin .pow (.c (.int 10)) (.c (.int 18)))) (.v 2) (.c (.int 0)), .c (.str [115, 101, 101, 100]), .call 1001 [.v 2, .v 1], .c (.str [97, 116]), .c (.int 0)])] }
/-- 1003: _law_draw(_law_state_here, _law_many): slots 0 _law_state_here 1 _law_many 2 _law_found 3 _law_number -/
def l_law_draw : Df := { np := 2, ns := 4, body := [.put (.v 0) (.c (.str [97, 116])) (.bin .add (.ix (.v 0) (.c (.str [97, 116]))) (.c (.int 1))), .iff (.cmp .gt (.ix (.v 0) (.c (.str [108, 101, 102, 116]))) (.c (.int 0))) [.set true 2 (.bin .mod (.ix (.v 0) (.c (.str [108, 101, 102, 116]))) (.v 1)), .put (.v 0) (.c (.str [108, 101, 102, 116])) (.bin .fdiv (.ix (.v 0) (.c (.str [108, 101, 102, 116]))) (.v 1)), .rtv 2] [], .set true 3 (.call 1001 [.call 1001 [.ix (.v 0) (.c (.str [115, 101, 101, 100])), .ix (.v 0) (.c (.str [97, 116]))], .bin .add (.c (.int 40)) (.ix (.v 0) (.c (.str [97, 116])))]), .ret (.bin .mod (.bin .fdiv (.bin .add (.bin .mul (.v 3) (.c (.int 2147483647))) (.call 1001 [.v 3, .bin .add (.c (.int 7)) (.ix (.v 0) (.c (.str [97, 116])))])) (.c (.int 64))) (.v 1))] }
/-- 1004: _law_of(_law_state_here, _law_things): slots 0 _law_state_here 1 _law_things -/
def l_law_of : Df := { np := 2, ns := 2, body := [.ret (.ix (.v 1) (.call 1003 [.v 0, .bi .len [.v 1]]))] }
/-- 1005: _law_names(_law_state_here, _law_many): slots 0 _law_state_here 1 _law_many 2 _law_letters 3 _law_found 4 _law_k 5 _law_name 6 _law_j -/
def l_law_names : Df := { np := 2, ns := 7, body := [.set true 2 (.c (.str [97, 98, 99, 100, 101, 102, 103, 104, 105, 106, 107, 108, 109, 110, 111, 112, 113, 114, 115, 116, 117, 118, 119, 120, 121, 122])), .set true 3 (.lst []), .for (.n 4) (.rng [.v 1]) [.set false 5 (.me .join (.c (.str [])) [.lc (.ix (.v 2) (.call 1003 [.v 0, .c (.int 26)])) (.n 6) (.rng [.bin .add (.c (.int 1)) (.call 1003 [.v 0, .c (.int 8)])]) [] [6]]), .iff (.cmp .eq (.call 1003 [.v 0, .c (.int 9)]) (.c (.int 0))) [.set false 5 (.ix (.lst [.c (.str [98, 111, 111, 107]), .c (.str [114, 97, 105, 110]), .c (.str [112, 97, 121]), .c (.str [104, 97, 110, 100, 115]), .c (.str [115, 101, 110, 116]), .c (.str [116, 101, 97, 109]), .c (.str [115, 116, 101, 112, 115]), .c (.str [104, 111, 117, 115, 101])]) (.call 1003 [.v 0, .c (.int 8)]))] [], .whl (.cmp .inn (.v 5) (.v 3)) [.set false 5 (.bin .add (.sl (.v 5) none (some (.neg (.c (.int 1))))) (.ix (.v 2) (.bin .mod (.bin .add (.me .index (.v 2) [.ix (.v 5) (.neg (.c (.int 1)))]) (.c (.int 1))) (.c (.int 26)))))], .app (.v 3) (.v 5)], .rtv 3] }
/-- 1006: _law_rising(_law_state_here, _law_many, _law_most): slots 0 _law_state_here 1 _law_many 2 _law_most 3 _law_k -/
def l_law_rising : Df := { np := 3, ns := 4, body := [.ret (.sp .sset [.lc (.call 1003 [.v 0, .v 2]) (.n 3) (.rng [.call 1003 [.v 0, .bin .add (.v 1) (.c (.int 1))]]) [] [3]])] }
/-- 1007: _law_act(_law_state_here): slots 0 _law_state_here 1 _law_steps 2 _law_land 3 _law_team 4 _law_some 5 _law_most -/
def l_law_act : Df := { np := 1, ns := 6, body := [.set true 1 (.lc (.tup [.v 2, .call 1003 [.v 0, .c (.int 10)]]) (.n 2) (.e (.sp .sset [.bin .add (.lst [.c (.int 0)]) (.call 1006 [.v 0, .c (.int 5), .c (.int 1000)])])) [] [2]), .set false 3 (.tup [.call 1003 [.v 0, .ix (.lst [.c (.int 1000), .c (.int 300)]) (.call 1003 [.v 0, .c (.int 2)])], .bin .add (.c (.int 1)) (.call 1003 [.v 0, .c (.int 6)])]), .set true 4 (.lc (.call 1003 [.v 0, .v 5]) (.n 5) (.e (.tup [.c (.int 100), .c (.int 100), .c (.int 41), .c (.int 41)])) [] [5]), .ret (.bin .add (.bin .add (.tup [.bi .tuple [.v 1], .v 3]) (.bi .tuple [.v 4])) (.tup [.bin .add (.c (.int 1)) (.call 1003 [.v 0, .c (.int 9)])]))] }
/-- 1008: _law_house(_law_state_here, _law_name, _law_far): slots 0 _law_state_here 1 _law_name 2 _law_far 3 _law_days 4 _law_lands 5 _law_day -/
def l_law_house : Df := { np := 3, ns := 6, body := [.set true 3 (.sp .sset [.bin .add (.lst [.c (.int 0)]) (.call 1006 [.v 0, .c (.int 7), .c (.int 240)])]), .set true 4 (.lc (.tup [.v 5, .call 1003 [.v 0, .c (.int 1000)]]) (.n 5) (.e (.v 3)) [] [5]), .ret (.tup [.v 1, .call 1003 [.v 0, .v 2], .call 1003 [.v 0, .c (.int 10)], .bi .tuple [.v 4]])] }
/-- 1009: _law_roll(_law_state_here): slots 0 _law_state_here 1 _law_far 2 _law_houses 3 _law_name 4 _law_overseers 5 _law_stretches 6 _law_most 7 _law_years 8 _law_year 9 _law_wants -/
def l_law_roll : Df := { np := 1, ns := 10, body := [.set true 1 (.ix (.lst [.c (.int 8), .c (.int 30), .c (.int 100)]) (.call 1003 [.v 0, .c (.int 3)])), .set true 2 (.lc (.call 1008 [.v 0, .v 3, .v 1]) (.n 3) (.e (.call 1005 [.v 0, .call 1003 [.v 0, .c (.int 9)]])) [] [3]), .set true 4 (.call 1005 [.v 0, .c (.int 4)]), .set true 5 (.lst []), .for (.n 3) (.e (.call 1005 [.v 0, .call 1003 [.v 0, .c (.int 7)]])) [.set true 6 (.ix (.lst [.c (.int 10), .c (.int 40), .c (.int 100)]) (.call 1003 [.v 0, .c (.int 3)])), .set true 7 (.lc (.v 8) (.n 8) (.rng [.c (.int 10)]) [.cmp .gt (.call 1003 [.v 0, .c (.int 5)]) (.c (.int 0))] [8]), .set true 9 (.lc (.tup [.v 8, .call 1003 [.v 0, .v 6], .call 1003 [.v 0, .c (.int 100)]]) (.n 8) (.e (.v 7)) [] [8]), .app (.v 5) (.tup [.v 3, .call 1003 [.v 0, .v 1], .call 1004 [.v 0, .v 4], .bi .tuple [.v 9]])], .ret (.tup [.call 1007 [.v 0], .bi .tuple [.v 2], .bi .tuple [.v 5]])] }
/-- 1010: _law_last(_law_table, _law_number): slots 0 _law_table 1 _law_number 2 _law_pair -/
def l_law_last : Df := { np := 2, ns := 3, body := [.ret (.ix (.lc (.ix (.v 2) (.c (.int 1))) (.n 2) (.e (.v 0)) [.cmp .le (.ix (.v 2) (.c (.int 0))) (.v 1)] [2]) (.neg (.c (.int 1))))] }
/-- 1011: _law_given(_law_roll_here, _law_month): slots 0 _law_roll_here 1 _law_month 2 _law_house_here -/
def l_law_given : Df := { np := 2, ns := 3, body := [.ret (.lc (.call 1010 [.ix (.ix (.v 0) (.c (.int 0))) (.c (.int 0)), .call 1010 [.ix (.v 2) (.c (.int 3)), .bin .mul (.c (.int 6)) (.v 1)]]) (.n 2) (.e (.ix (.v 0) (.c (.int 1)))) [] [2])] }
/-- 1012: _law_right(_law_roll_here, _law_month): slots 0 _law_roll_here 1 _law_month 2 _law_kept 3 _law_due 4 _law_house_here 5 _law_turn 6 _law_found -/
def l_law_right : Df := { np := 2, ns := 7, body := [.set true 2 (.bi .repr [.v 0]), .set true 3 (.bix .list (.zp [.lc (.ix (.v 4) (.c (.int 0))) (.n 4) (.e (.ix (.v 0) (.c (.int 1)))) [] [4], .call 1011 [.v 0, .v 1]])), .for (.n 5) (.rng [.c (.int 2)]) [.set true 6 (.call 29 [.v 0, .v 1]), .iff (.or [.not (.isi (.v 6) [.dct]), .cmp .ne (.bi .repr [.bix .list (.itm (.v 6))]) (.bi .repr [.v 3]), .cmp .ne (.bi .repr [.v 0]) (.v 2)]) [.ret (.c (.bl false))] [], .clr (.v 6)], .ret (.c (.bl true))] }
/-- 1013: _law_hand_right(_law_state_here): slots 0 _law_state_here 1 _law_names_here 2 _law_month 3 _law_act_here 4 _law_full 5 _law_name 6 _law_day 7 _law_due 8 _law_roll_here -/
def l_law_hand_right : Df := { np := 1, ns := 9, body := [.set true 1 (.call 1005 [.v 0, .c (.int 8)]), .set true 2 (.bin .add (.c (.int 1)) (.call 1003 [.v 0, .c (.int 39)])), .set false 3 (.tup [.tup [.tup [.c (.int 0), .c (.int 9)]], .tup [.c (.int 0), .c (.int 1)], .c (.int 0), .c (.int 0), .c (.int 0), .c (.int 0), .c (.int 1)]), .set false 4 (.tup [.v 3, .bi .tuple [.lc (.tup [.v 5, .c (.int 0), .c (.int 0), .tup [.tup [.c (.int 0), .c (.int 0)]]]) (.n 5) (.e (.v 1)) [] [5]], .tup []]), .iff (.cmp .ne (.bix .list (.vls (.call 29 [.v 4, .v 2]))) (.bin .mul (.lst [.c (.int 9)]) (.c (.int 8)))) [.ret (.c (.bl false))] [], .set false 3 (.bin .add (.tup [.tup [.tup [.c (.int 0), .c (.int 2)], .tup [.c (.int 500), .c (.int 7)]]]) (.sl (.v 3) (some (.c (.int 1))) none)), .for (.t [.n 6, .n 7]) (.e (.tup [.tup [.bin .sub (.bin .mul (.c (.int 6)) (.v 2)) (.c (.int 1)), .c (.int 7)], .tup [.bin .mul (.c (.int 6)) (.v 2), .c (.int 7)], .tup [.bin .add (.bin .mul (.c (.int 6)) (.v 2)) (.c (.int 1)), .c (.int 2)]])) [.set false 8 (.tup [.v 3, .tup [.tup [.ix (.v 1) (.c (.int 0)), .c (.int 9), .c (.int 1), .tup [.tup [.c (.int 0), .c (.int 499)], .tup [.v 6, .c (.int 500)]]]], .tup []]), .iff (.or [.cmp .ne (.call 29 [.v 8, .v 2]) (.dsp false [.ix (.v 1) (.c (.int 0)), .v 7]), .cmp .ne (.call 29 [.v 8, .c (.int 0)]) (.dsp false [.ix (.v 1) (.c (.int 0)), .c (.int 2)])]) [.ret (.c (.bl false))] []], .ret (.c (.bl true))] }
/-- 1014: law(_law_script): slots 0 _law_script 1 _law_k 2 _law_state_here 3 _law_roll_here 4 _law_month -/
def llaw : Df := { np := 1, ns := 5, body := [.for (.n 1) (.rng [.c (.int 3)]) [.set false 2 (.call 1002 [.v 0, .v 1]), .set false 3 (.call 1009 [.v 2]), .for (.n 4) (.e (.tup [.call 1003 [.v 2, .c (.int 40)], .call 1003 [.v 2, .c (.int 40)], .c (.int 0), .c (.int 39)])) [.iff (.not (.call 1012 [.v 3, .v 4])) [.ret (.c (.bl false))] []], .iff (.not (.call 1013 [.v 2])) [.ret (.c (.bl false))] []], .ret (.c (.bl true))] }
def dfs : List (Nat × Df) := [(0, p_is_among), (2, p_is_day), (16, p_is_year), (9, p_is_month), (1, p_is_name), (26, p_need_month), (3, p_is_tuple_of), (10, p_is_rising), (11, p_is_table), (6, p_is_land), (12, p_is_due), (13, p_is_steps), (14, p_is_team), (18, p_is_field), (15, p_is_lands), (21, p_is_house), (17, p_is_wants), (22, p_is_stretch), (20, p_first_bad), (19, p_need_act), (25, p_need_roll), (23, p_last_of), (24, p_due_in), (28, p_days_given), (27, p_by_names), (29, p_gives), (1000, l_law_cell_at), (1001, l_law_mixed), (1002, l_law_state), (1003, l_law_draw), (1004, l_law_of), (1005, l_law_names), (1006, l_law_rising), (1007, l_law_act), (1008, l_law_house), (1009, l_law_roll), (1010, l_law_last), (1011, l_law_given), (1012, l_law_right), (1013, l_law_hand_right), (1014, llaw)]
def gls : List (Nat × T) := [(2, .str [97, 98, 99, 100, 101, 102, 103, 104, 105, 106, 107, 108, 109, 110, 111, 112, 113, 114, 115, 116, 117, 118, 119, 120, 121, 122]), (1, .int 8), (0, .int 240), (11, .int 24), (12, .int 6), (3, .int 999), (13, .int 9), (15, .int 6), (18, .int 99), (19, .int 40), (17, .int 9), (22, .int 9), (21, .int 99), (14, .int 6), (20, .int 8), (23, .int 10), (24, .int 99), (26, .int 8), (25, .int 6), (16, .int 7)]
def gds : List (Nat × List (T × T)) := []
def pg : Pg := { df := fun i => dfs.lookup i, gl := fun i => gls.lookup i, gd := fun i => gds.lookup i }
end K31
set_option Elab.async false
set_option linter.all false
set_option autoImplicit false
set_option maxRecDepth 100000
/-! the program's tables: last_of, due_in, land_on, owed .. -/
namespace Rm
open Kp
def oweF : List Nat := [40, 41, 23, 43, 24, 45, 46, 47, 48, 49, 50, 42, 44, 26, 9]
def oweG : List Nat := [0, 11, 12]
abbrev HasOwe (P : Pg) : Prop := Has P oweF oweG
/-- the last one at or ahead of d -/
def lastP (qs : List (Int × Int)) (d : Int) : Int := match (qs.filter fun p => decide (p.1 ≤ d)).getLast? with
  | some p => p.2
  | none => 0
theorem lc_fm {α : Type} {h : LH} {f : T → LH → R (Option T)} {gd : LH → Bool} {p : α → Bool} {e q : α → T} (hg : gd h = true) : ∀ (zs : List α) (acc : List T), (∀ z ∈ zs, f (e z) h = .ok (if p z then some (q z) else none) h) → lcL f gd (zs.map e) acc h = .ok (acc ++ (zs.filter p).map q) h
  | [], acc, _ => by simp [lcL, hg]
  | z :: zs, acc, hf => by
    rw [List.map_cons]
    unfold lcL
    rw [if_pos hg, hf z (List.mem_cons_self ..)]
    cases y : p z
    · simp only [Bool.false_eq_true, if_false]
      rw [lc_fm hg zs acc fun y hy => hf y (List.mem_cons_of_mem _ hy)]
      simp [y]
    · simp only [if_true]
      rw [lc_fm hg zs (acc ++ [q z]) fun y hy => hf y (List.mem_cons_of_mem _ hy)]
      simp [y]
theorem at_last {xs : List T} {x : T} (e : xs.getLast? = some x) : atT xs (-1) = some x := by
  obtain ⟨ys, rfl⟩ := List.getLast?_eq_some_iff.mp e
  exact L2.atI_last ys x
theorem last_some {most bound : Int} {qs : List (Int × Int)} (t : TbOk most bound qs) {d : Int} (d0 : 0 ≤ d) : ∃ p, (qs.filter fun p => decide (p.1 ≤ d)).getLast? = some p ∧ p ∈ qs ∧ lastP qs d = p.2 := by
  obtain ⟨v, r, e⟩ := t.z
  cases q : (qs.filter fun p => decide (p.1 ≤ d)).getLast? with
  | none =>
    rw [List.getLast?_eq_none_iff] at q
    have : (0, v) ∈ qs.filter fun p => decide (p.1 ≤ d) := List.mem_filter.mpr ⟨by rw [e]; simp, decide_eq_true d0⟩
    rw [q] at this
    cases this
  | some p =>
    refine ⟨p, rfl, (List.mem_filter.mp (List.mem_of_getLast? q)).1, ?_⟩
    simp only [lastP, q]
theorem last_bd {most bound : Int} {qs : List (Int × Int)} (t : TbOk most bound qs) {d : Int} (d0 : 0 ≤ d) : 0 ≤ lastP qs d ∧ lastP qs d ≤ bound := by
  obtain ⟨p, _, hp, e⟩ := last_some t d0
  have := t.bd p hp
  rw [e]; omega
section
variable {P : Pg} {n : Nat} {h : LH}
theorem last_ok (H : HasOwe P) {most bound : Int} {qs : List (Int × Int)} (t : TbOk most bound qs) (d : Int) (d0 : 0 ≤ d) : callF P (n + 1) 23 [.s (tbT qs), .s (.int d)] h = .ok (.s (.int (lastP qs d))) h := by
  obtain ⟨p, ep, _, el⟩ := last_some t d0
  rw [call_eq (H.df 23 (by decide) rfl) rfl, p_last_of, tbT]
  simp only [↓evd, evu, evl, Nat.reduceAdd, Nat.reduceSub, Nat.reduceLeDiff, Nat.reduceEqDiff, Nat.zero_le, Nat.le_refl, Nat.zero_add, Nat.add_zero, Int.reduceEq, Int.reduceLE, Int.reduceLT, Int.reduceAdd, Int.reduceSub, Int.reduceMul, Int.reduceNeg, Int.cast_ofNat_Int, Int.natCast_add, Int.natCast_zero, Int.natCast_one, lcK]
  rw [lc_fm (e := ptT) (q := fun p => T.int p.2) (p := fun p => decide (p.1 ≤ d)) rfl]
  rotate_left
  · intro q hq
    rw [lcB_k rfl]
    have a0 : atT [T.int q.1, T.int q.2] 0 = some (.int q.1) := at0 _ _
    have a1 : atT [T.int q.1, T.int q.2] 1 = some (.int q.2) := L2.atI_nat (j := 1) rfl
    rw [ptT]
    by_cases z : q.1 ≤ d
    · simp only [↓evd, evu, evl, Nat.reduceAdd, Nat.reduceSub, Nat.reduceLeDiff, Nat.reduceEqDiff, Nat.zero_le, Nat.le_refl, Nat.zero_add, Nat.add_zero, Int.reduceEq, Int.reduceLE, Int.reduceLT, Int.reduceAdd, Int.reduceSub, Int.reduceMul, Int.reduceNeg, Int.cast_ofNat_Int, Int.natCast_add, Int.natCast_zero, Int.natCast_one, a0, a1, z]; rfl
    · simp only [↓evd, evu, evl, Nat.reduceAdd, Nat.reduceSub, Nat.reduceLeDiff, Nat.reduceEqDiff, Nat.zero_le, Nat.le_refl, Nat.zero_add, Nat.add_zero, Int.reduceEq, Int.reduceLE, Int.reduceLT, Int.reduceAdd, Int.reduceSub, Int.reduceMul, Int.reduceNeg, Int.cast_ofNat_Int, Int.natCast_add, Int.natCast_zero, Int.natCast_one, a0, a1, z]; rfl
  rw [List.nil_append]
  have al : atT ((qs.filter fun p => decide (p.1 ≤ d)).map fun p => T.int p.2) (-1) = some (.int p.2) := at_last (by rw [List.getLast?_map, ep]; rfl)
  simp only [↓evd, evu, evl, Nat.reduceAdd, Nat.reduceSub, Nat.reduceLeDiff, Nat.reduceEqDiff, Nat.zero_le, Nat.le_refl, Nat.zero_add, Nat.add_zero, Int.reduceEq, Int.reduceLE, Int.reduceLT, Int.reduceAdd, Int.reduceSub, Int.reduceMul, Int.reduceNeg, Int.cast_ofNat_Int, Int.natCast_add, Int.natCast_zero, Int.natCast_one, al, el]
end
/-! ### houses -/
structure Hs where
  w : List Nat
  m : Int
  k : Int
  ls : List (Int × Int)
def hT (a : Hs) : T := .tup [.str a.w, .int a.m, .int a.k, tbT a.ls]
structure HOk (a : Hs) : Prop where
  nm : nmT (.str a.w) = true
  m0 : 0 ≤ a.m ∧ a.m ≤ 99
  k0 : 0 ≤ a.k ∧ a.k ≤ 9
  tb : TbOk 239 999 a.ls
  l : (a.ls.length : Int) ≤ 8
theorem HOk.b {a : Hs} (o : HOk a) : houseB (hT a) = true := by
  simp only [hT, houseB, o.nm, am_int o.m0.1 o.m0.2, am_int o.k0.1 o.k0.2, landsB, o.tb.tab o.l, Bool.and_self]
theorem hou_inv {x : T} (h : houseB x = true) : ∃ a, x = hT a ∧ HOk a := by
  unfold houseB at h
  split at h
  · rename_i a b c d
    simp only [Bool.and_eq_true] at h
    obtain ⟨⟨⟨h1, h2⟩, h3⟩, h4⟩ := h
    obtain ⟨i, rfl, i0, i1⟩ := am_inv h2
    obtain ⟨j, rfl, j0, j1⟩ := am_inv h3
    obtain ⟨ls, rfl, tb, l⟩ := tab_inv h4
    cases a with
    | str w => exact ⟨⟨w, i, j, ls⟩, rfl, h1, ⟨i0, i1⟩, ⟨j0, j1⟩, tb, l⟩
    | _ => simp [nmT] at h1
  · cases h
theorem hous_inv : ∀ {hs : List T}, hs.all houseB = true → ∃ as : List Hs, hs = as.map hT ∧ ∀ a ∈ as, HOk a
  | [], _ => ⟨[], rfl, (fun _ h => nomatch h)⟩
  | x :: xs, a => by
    rw [List.all_cons, Bool.and_eq_true] at a
    obtain ⟨y, rfl, oy⟩ := hou_inv a.1
    obtain ⟨as, rfl, oas⟩ := hous_inv a.2
    refine ⟨y :: as, rfl, fun b hb => ?_⟩
    rcases List.mem_cons.mp hb with rfl | hb
    · exact oy
    · exact oas b hb
structure HsOk (as : List Hs) : Prop where
  ok : ∀ a ∈ as, HOk a
  nd : (as.map Hs.w).Nodup
  l : as.length ≤ 8
theorem HsOk.ths {as : List Hs} (o : HsOk as) : ThsOk houseB (as.map hT) := by
  refine ⟨?_, as.map Hs.w, by rw [List.map_map, List.map_map]; rfl, o.nd⟩
  rw [List.all_map, List.all_eq_true]
  exact fun a ha => (o.ok a ha).b
theorem ths_inv {hs : List T} (t : ThsOk houseB hs) (l : hs.length ≤ 8) : ∃ as, hs = as.map hT ∧ HsOk as := by
  obtain ⟨as, rfl, ok⟩ := hous_inv t.all
  obtain ⟨ns, e, nd⟩ := t.nms
  refine ⟨as, rfl, ok, ?_, by rwa [List.length_map] at l⟩
  have : ns = as.map Hs.w := by
    have e' : (as.map Hs.w).map T.str = ns.map T.str := by rw [← e, List.map_map, List.map_map]; rfl
    exact (List.map_inj_right (fun a b h => by injection h)).mp e'.symm
  rw [← this]; exact nd
end Rm
set_option Elab.async false
set_option linter.all false
set_option autoImplicit false
set_option maxRecDepth 100000
/-! land_on, keeps_team, owed_in, owed, all_owed -/
namespace Rm
open Kp
theorem inj_nd {α β : Type} {f : α → β} : ∀ {l : List α}, (l.map f).Nodup → ∀ {a b : α}, a ∈ l → b ∈ l → f a = f b → a = b
  | [], _, _, _, h, _, _ => nomatch h
  | x :: l, nd, a, b, ha, hb, e => by
    rw [List.map_cons, List.nodup_cons] at nd
    rcases List.mem_cons.mp ha with ea | ha'
    · rcases List.mem_cons.mp hb with eb | hb'
      · rw [ea, eb]
      · refine absurd (List.mem_map.mpr ⟨b, hb', ?_⟩) nd.1
        rw [← e, ea]
    · rcases List.mem_cons.mp hb with eb | hb'
      · refine absurd (List.mem_map.mpr ⟨a, ha', ?_⟩) nd.1
        rw [e, eb]
      · exact inj_nd nd.2 ha' hb' e
/-- a roll, its parts told -/
structure RO (fs : List T) (as : List Hs) (ss : List T) (qs : List (Int × Int)) (x : Int) : Prop where
  act : ActOk fs
  e : ∃ y r, fs = tbT qs :: .tup [.int x, .int y] :: r
  tb : TbOk 999 9 qs
  hs : HsOk as
  str : ThsOk stretchB ss
  sl : ss.length ≤ 6
theorem RO.roll {fs : List T} {as : List Hs} {ss : List T} {qs : List (Int × Int)} {x : Int} (o : RO fs as ss qs x) : RollOk fs (as.map hT) ss := ⟨o.act, o.hs.ths, by rw [List.length_map]; exact o.hs.l, o.str, o.sl⟩
theorem act_tab {fs : List T} (o : ActOk fs) : ∃ qs x y r, fs = tbT qs :: .tup [.int x, .int y] :: r ∧ TbOk 999 9 qs := by
  match fs, o with
  | a0 :: a1 :: r, o =>
    have f0 : stepsB a0 = true := o.fld 0 a0 rfl
    have f1 : teamB a1 = true := o.fld 1 a1 rfl
    obtain ⟨qs, rfl, tb, l⟩ := tab_inv f0
    unfold teamB at f1
    split at f1
    · rename_i a b
      rw [Bool.and_eq_true] at f1
      obtain ⟨x, rfl, x0, x1⟩ := am_inv f1.1
      obtain ⟨y, rfl, _, _⟩ := am_inv f1.2
      exact ⟨qs, x, y, r, rfl, tb⟩
    · cases f1
theorem ro_of {fs hs ss : List T} (o : RollOk fs hs ss) : ∃ as qs x, hs = as.map hT ∧ RO fs as ss qs x := by
  obtain ⟨as, rfl, ho⟩ := ths_inv o.hou o.hl
  obtain ⟨qs, x, y, r, e, tb⟩ := act_tab o.act
  exact ⟨as, qs, x, rfl, o.act, ⟨y, r, e⟩, tb, ho, o.str, o.sl⟩
theorem act_gd {fs : List T} (o : ActOk fs) : gdTs fs = true := by
  obtain ⟨a0, a1, a2, a3, a4, a5, a6, rfl, n0, n1, n2, n3, n4, n5, n6⟩ := act_n o
  simp [gdTs, tab_gd n0, (row_gd n1).1, num_gd n2, num_gd n3, num_gd n4, num_gd n5, num_gd n6]
theorem roll_vs {fs hs ss : List T} (o : RollOk fs hs ss) (h : LH) : okVs h fs = true ∧ okVs h hs = true ∧ okVs h ss = true :=
  ⟨gd_okVs h _ (act_gd o.act), gd_okVs h _ (gd_all fun x hx => house_gd (List.all_eq_true.mp o.hou.all x hx)), gd_okVs h _ (gd_all fun x hx => stretch_gd (List.all_eq_true.mp o.str.all x hx))⟩
section
variable {P : Pg} {n : Nat} {h : LH} {fs : List T} {as : List Hs} {ss : List T} {qs : List (Int × Int)} {x : Int}
theorem need_ok (HR : HasRoll P) (o : RO fs as ss qs x) : callF P (n + 7) 25 [.s (rollT fs (as.map hT) ss)] h = .ok (.s (rollT fs (as.map hT) ss)) h := by
  have v := roll_vs o.roll h
  exact roll_ok HR _ _ _ o.roll v.1 v.2.1 v.2.2
theorem called_ok (H : HasOwe P) (as : List Hs) (a : Hs) (w : List Nat) (ha : a ∈ as) (ew : a.w = w) (nd : (as.map Hs.w).Nodup) (word : T) : callF P (n + 1) 40 [.s (.tup (as.map hT)), .s (.str w), .s word] h = .ok (.s (hT a)) h := by
  refine eq_W (t := fx) (call_W (H.df 40 (by decide) rfl) rfl ?_)
  rw [p_called_so]
  simp only [↓evd, evu, evl, Nat.reduceAdd, Nat.reduceSub, Nat.reduceLeDiff, Nat.reduceEqDiff, Nat.zero_le, Nat.le_refl, Nat.zero_add, Nat.add_zero, Int.reduceEq, Int.reduceLE, Int.reduceLT, Int.reduceAdd, Int.reduceSub, Int.reduceMul, Int.reduceNeg, Int.cast_ofNat_Int, Int.natCast_add, Int.natCast_zero, Int.natCast_one, ls_1, lo_s, bf_1, no_s]
  have ff := for_find (P := P) (h := h) (G := callF P n) (tg := .n 3) (body := [.iff (.and [.isi (.v 1) [.str], .cmp .eq (.ix (.v 3) (.c (.int 0))) (.v 1)]) [.rtv 3] []]) (ok := fun t => !decide (t = hT a)) (d := .s (hT a)) (Good := fun s => ∃ s3, s = [some (.s (.tup (as.map hT))), some (.s (.str w)), some (.s word), s3]) (as.map hT) [some (.s (.tup (as.map hT))), some (.s (.str w)), some (.s word), none] ⟨none, rfl⟩ (by
    rintro t ht _ ⟨s3, rfl⟩
    obtain ⟨c, hc, rfl⟩ := List.mem_map.mp ht
    have a0 : atT [T.str c.w, .int c.m, .int c.k, tbT c.ls] 0 = some (.str c.w) := at0 _ _
    have isi : isiD (.s (.str w)) [.str] h = some true := rfl
    have key : c.w = w → c = a := fun e => by
      exact inj_nd nd hc ha (by rw [e, ew])
    constructor
    · intro q
      have q : hT c ≠ hT a := by simpa using q
      have z : ¬ (c.w = w) := fun e => q (by rw [key e])
      refine ⟨[some (.s (.tup (as.map hT))), some (.s (.str w)), some (.s word), some (.s (hT c))], ?_, ⟨some (.s (hT c)), rfl⟩⟩
      rw [forB_k rfl, show hT c = .tup [.str c.w, .int c.m, .int c.k, tbT c.ls] from rfl]
      simp only [↓evd, evu, evl, Nat.reduceAdd, Nat.reduceSub, Nat.reduceLeDiff, Nat.reduceEqDiff, Nat.zero_le, Nat.le_refl, Nat.zero_add, Nat.add_zero, Int.reduceEq, Int.reduceLE, Int.reduceLT, Int.reduceAdd, Int.reduceSub, Int.reduceMul, Int.reduceNeg, Int.cast_ofNat_Int, Int.natCast_add, Int.natCast_zero, Int.natCast_one, isi, a0, z]
    · intro q
      have q : hT c = hT a := by simpa using q
      have z : c.w = w := by
        simp only [hT] at q
        injection q with q
        injection q with q _
        injection q with q
        rw [q, ew]
      rw [forB_k rfl]
      rw [← key z]
      rw [hT]
      simp only [↓evd, evu, evl, Nat.reduceAdd, Nat.reduceSub, Nat.reduceLeDiff, Nat.reduceEqDiff, Nat.zero_le, Nat.le_refl, Nat.zero_add, Nat.add_zero, Int.reduceEq, Int.reduceLE, Int.reduceLT, Int.reduceAdd, Int.reduceSub, Int.reduceMul, Int.reduceNeg, Int.cast_ofNat_Int, Int.natCast_add, Int.natCast_zero, Int.natCast_one, isi, a0, z])
  have nall : ((as.map hT).all fun t => !decide (t = hT a)) = false := by
    rw [Bool.eq_false_iff]
    intro al
    have := List.all_eq_true.mp al (hT a) (List.mem_map.mpr ⟨a, ha, rfl⟩)
    simp at this
  have := ff.2 nall
  rw [this]
  simp only [↓evd, evu, evl, Nat.reduceAdd, Nat.reduceSub, Nat.reduceLeDiff, Nat.reduceEqDiff, Nat.zero_le, Nat.le_refl, Nat.zero_add, Nat.add_zero, Int.reduceEq, Int.reduceLE, Int.reduceLT, Int.reduceAdd, Int.reduceSub, Int.reduceMul, Int.reduceNeg, Int.cast_ofNat_Int, Int.natCast_add, Int.natCast_zero, Int.natCast_one]
  exact W_ok.mpr ⟨rfl, rfl⟩
end
end Rm
set_option Elab.async false
set_option linter.all false
set_option autoImplicit false
set_option maxRecDepth 100000
namespace Rm
open Kp
def due (qs ls : List (Int × Int)) (m : Int) : Int := lastP qs (lastP ls (6 * m))
def dueY (qs ls : List (Int × Int)) (y : Int) : Int := ((List.range 4).map fun (k : Nat) => due qs ls (4 * y + (k : Int))).sum
theorem ints_map {α : Type} (f : α → Int) : ∀ xs : List α, intsOf (xs.map fun x => T.int (f x)) = some (xs.map f)
  | [] => rfl
  | x :: xs => by simp [intsOf, ints_map f xs]
theorem bi_sum {α : Type} (f : α → Int) (xs : List α) (h : LH) : biD .sum [.tl (xs.map fun x => T.int (f x))] h = some (.s (.int ((xs.map f).sum))) := by
  show biSum h (.tl (xs.map fun x => T.int (f x))) = _
  simp only [biSum, lstOf, ints_map, Option.map_some]
theorem mrg_nd (kvs : List (T × T)) (nd : (kvs.map Prod.fst).Nodup) : mrg kvs = kvs := by
  have : ∀ (kvs acc : List (T × T)), ((acc ++ kvs).map Prod.fst).Nodup → kvs.foldl (fun acc p => putT p.1 p.2 acc) acc = acc ++ kvs := by
    intro kvs
    induction kvs with
    | nil => intro acc _; simp
    | cons p kvs ih =>
      intro acc nd
      have np : (acc.any fun q => decide (q.1 = p.1)) = false := by
        rw [List.any_eq_false]
        intro q hq
        rw [List.map_append, List.nodup_append] at nd
        have := nd.2.2 q.1 (List.mem_map.mpr ⟨q, hq, rfl⟩) p.1 (by simp)
        simpa using this
      have e : putT p.1 p.2 acc = acc ++ [p] := by
        unfold putT
        rw [np]
        rfl
      rw [List.foldl_cons, e, ih (acc ++ [p]) (by rw [List.append_assoc]; exact nd)]
      simp
  have := this kvs [] (by simpa using nd)
  simpa [mrg] using this
section
variable {P : Pg} {n : Nat} {h : LH} {fs : List T} {as : List Hs} {ss : List T} {qs : List (Int × Int)} {x : Int}
theorem at_h3 (a : Hs) : atT [T.str a.w, .int a.m, .int a.k, tbT a.ls] 3 = some (tbT a.ls) := L2.atI_nat (j := 3) rfl
theorem at_h0 (a : Hs) : atT [T.str a.w, .int a.m, .int a.k, tbT a.ls] 0 = some (.str a.w) := at0 _ _
theorem at_r0 (a b c : T) : atT [a, b, c] 0 = some a := at0 _ _
theorem at_r1 (a b c : T) : atT [a, b, c] 1 = some b := L2.atI_nat (j := 1) rfl
theorem at_r2 (a b c : T) : atT [a, b, c] 2 = some c := L2.atI_nat (j := 2) rfl
theorem at_f0 (a b : T) (r : List T) : atT (a :: b :: r) 0 = some a := at0 _ _
theorem at_f1 (a b : T) (r : List T) : atT (a :: b :: r) 1 = some b := L2.atI_nat (j := 1) rfl
theorem hof_ok (H : HasOwe P) (o : RO fs as ss qs x) (a : Hs) (ha : a ∈ as) : callF P (n + 2) 41 [.s (rollT fs (as.map hT) ss), .s (.str a.w)] h = .ok (.s (hT a)) h := by
  rw [call_eq (H.df 41 (by decide) rfl) rfl, p_house_of]
  simp only [↓evd, evu, evl, Nat.reduceAdd, Nat.reduceSub, Nat.reduceLeDiff, Nat.reduceEqDiff, Nat.zero_le, Nat.le_refl, Nat.zero_add, Nat.add_zero, Int.reduceEq, Int.reduceLE, Int.reduceLT, Int.reduceAdd, Int.reduceSub, Int.reduceMul, Int.reduceNeg, Int.cast_ofNat_Int, Int.natCast_add, Int.natCast_zero, Int.natCast_one, at_r1, called_ok (n := n) (h := h) H as a a.w ha rfl o.hs.nd]
theorem due_ok' (H : HasOwe P) (o : RO fs as ss qs x) (a : Hs) (ha : a ∈ as) (m : Int) (m0 : 0 ≤ m) (m1 : m ≤ 1000) : callF P (n + 2) 24 [.s (rollT fs (as.map hT) ss), .s (hT a), .s (.int m)] h = .ok (.s (.int (due qs a.ls m))) h := by
  obtain ⟨y, r, rfl⟩ := o.e
  have tb := (o.hs.ok a ha).tb
  have l1 := last_ok (n := n) (h := h) H tb (6 * m) (by omega)
  have b := last_bd tb (d := 6 * m) (by omega)
  have l2 := last_ok (n := n) (h := h) H o.tb (lastP a.ls (6 * m)) b.1
  have mk : mulOk 6 m = true := by simp only [mulOk, decide_eq_true_eq]; left; omega
  rw [call_eq (H.df 24 (by decide) rfl) rfl, p_due_in, hT]
  simp only [↓evd, evu, evl, Nat.reduceAdd, Nat.reduceSub, Nat.reduceLeDiff, Nat.reduceEqDiff, Nat.zero_le, Nat.le_refl, Nat.zero_add, Nat.add_zero, Int.reduceEq, Int.reduceLE, Int.reduceLT, Int.reduceAdd, Int.reduceSub, Int.reduceMul, Int.reduceNeg, Int.cast_ofNat_Int, Int.natCast_add, Int.natCast_zero, Int.natCast_one, at_r0, at_f0, at_h3, H.gl 12 (by decide) rfl, mk, if_true, l1, l2]
  rfl
theorem team_ok' (H : HasOwe P) (o : RO fs as ss qs x) (a : Hs) (ha : a ∈ as) (d : Int) (d0 : 0 ≤ d) : callF P (n + 2) 43 [.s (rollT fs (as.map hT) ss), .s (hT a), .s (.int d)] h = .ok (.s (.bl (decide (x ≤ lastP a.ls d)))) h := by
  obtain ⟨y, r, rfl⟩ := o.e
  have tb := (o.hs.ok a ha).tb
  have l1 := last_ok (n := n) (h := h) H tb d d0
  rw [call_eq (H.df 43 (by decide) rfl) rfl, p_team_on, hT]
  simp only [↓evd, evu, evl, Nat.reduceAdd, Nat.reduceSub, Nat.reduceLeDiff, Nat.reduceEqDiff, Nat.zero_le, Nat.le_refl, Nat.zero_add, Nat.add_zero, Int.reduceEq, Int.reduceLE, Int.reduceLT, Int.reduceAdd, Int.reduceSub, Int.reduceMul, Int.reduceNeg, Int.cast_ofNat_Int, Int.natCast_add, Int.natCast_zero, Int.natCast_one, at_r0, at_f1, at_h3, l1, at0]
theorem duey_ok (H : HasOwe P) (o : RO fs as ss qs x) (a : Hs) (ha : a ∈ as) (y : Int) (y0 : 0 ≤ y) (y1 : y ≤ 9) : callF P (n + 3) 45 [.s (rollT fs (as.map hT) ss), .s (hT a), .s (.int y)] h = .ok (.s (.int (dueY qs a.ls y))) h := by
  have d6 : divOk 6 = true := rfl
  have q4 : (24 : Int) / 6 = 4 := rfl
  have mk : mulOk 4 y = true := by simp only [mulOk, decide_eq_true_eq]; left; omega
  have rg : rngD [.s (.int (4 * y)), .s (.int (4 * y + 4))] = some ((List.range 4).map fun (k : Nat) => T.int (4 * y + (k : Int))) := by
    have c : decide (-(2 ^ 61) ≤ 4 * y ∧ 4 * y < 2 ^ 61 ∧ -(2 ^ 61) ≤ 4 * y + 4 ∧ 4 * y + 4 < 2 ^ 61 ∧ 4 * y + 4 - 4 * y ≤ 16777216) = true := decide_eq_true (by omega)
    have e4 : 4 * y + 4 - 4 * y = 4 := by omega
    simp only [rngD]
    rw [if_pos c, e4]
    rfl
  rw [call_eq (H.df 45 (by decide) rfl) rfl, p_due_in_year]
  simp only [↓evd, evu, evl, Nat.reduceAdd, Nat.reduceSub, Nat.reduceLeDiff, Nat.reduceEqDiff, Nat.zero_le, Nat.le_refl, Nat.zero_add, Nat.add_zero, Int.reduceEq, Int.reduceLE, Int.reduceLT, Int.reduceAdd, Int.reduceSub, Int.reduceMul, Int.reduceNeg, Int.cast_ofNat_Int, Int.natCast_add, Int.natCast_zero, Int.natCast_one, H.gl 11 (by decide) rfl, H.gl 12 (by decide) rfl, d6, if_true, q4, mk, rg, lcK]
  rw [lc_mm (p := fun (k : Nat) => T.int (4 * y + (k : Int))) (q := fun (k : Nat) => T.int (due qs a.ls (4 * y + (k : Int)))) rfl]
  rotate_left
  · intro k hk
    have := List.mem_range.mp hk
    rw [lcB_k rfl]
    simp only [↓evd, evu, evl, Nat.reduceAdd, Nat.reduceSub, Nat.reduceLeDiff, Nat.reduceEqDiff, Nat.zero_le, Nat.le_refl, Nat.zero_add, Nat.add_zero, Int.reduceEq, Int.reduceLE, Int.reduceLT, Int.reduceAdd, Int.reduceSub, Int.reduceMul, Int.reduceNeg, Int.cast_ofNat_Int, Int.natCast_add, Int.natCast_zero, Int.natCast_one, due_ok' (n := n) (h := h) H o a ha (4 * y + (k : Int)) (by omega) (by omega)]
  rw [List.nil_append]
  simp only [↓evd, evu, evl, Nat.reduceAdd, Nat.reduceSub, Nat.reduceLeDiff, Nat.reduceEqDiff, Nat.zero_le, Nat.le_refl, Nat.zero_add, Nat.add_zero, Int.reduceEq, Int.reduceLE, Int.reduceLT, Int.reduceAdd, Int.reduceSub, Int.reduceMul, Int.reduceNeg, Int.cast_ofNat_Int, Int.natCast_add, Int.natCast_zero, Int.natCast_one, bi_sum]
  rfl
theorem nday_ok (H : HasOwe P) (HR : HasRoll P) (d : Int) (d0 : 0 ≤ d) (d1 : d ≤ 239) : callF P (n + 3) 42 [.s (.int d)] h = .ok (.s .non) h := by
  have k := day_ok (n := n) (h := h) HR (.int d) rfl
  rw [am_int d0 d1] at k
  rw [call_eq (H.df 42 (by decide) rfl) rfl, p_need_day]
  simp only [↓evd, evu, evl, Nat.reduceAdd, Nat.reduceSub, Nat.reduceLeDiff, Nat.reduceEqDiff, Nat.zero_le, Nat.le_refl, Nat.zero_add, Nat.add_zero, Int.reduceEq, Int.reduceLE, Int.reduceLT, Int.reduceAdd, Int.reduceSub, Int.reduceMul, Int.reduceNeg, Int.cast_ofNat_Int, Int.natCast_add, Int.natCast_zero, Int.natCast_one, k]
theorem nyear_ok (H : HasOwe P) (HR : HasRoll P) (d : Int) (d0 : 0 ≤ d) (d1 : d ≤ 9) : callF P (n + 3) 44 [.s (.int d)] h = .ok (.s .non) h := by
  have k := year_ok (n := n) (h := h) HR (.int d) rfl
  rw [am_int d0 d1] at k
  rw [call_eq (H.df 44 (by decide) rfl) rfl, p_need_year]
  simp only [↓evd, evu, evl, Nat.reduceAdd, Nat.reduceSub, Nat.reduceLeDiff, Nat.reduceEqDiff, Nat.zero_le, Nat.le_refl, Nat.zero_add, Nat.add_zero, Int.reduceEq, Int.reduceLE, Int.reduceLT, Int.reduceAdd, Int.reduceSub, Int.reduceMul, Int.reduceNeg, Int.cast_ofNat_Int, Int.natCast_add, Int.natCast_zero, Int.natCast_one, k]
theorem nmonth_ok (H : HasOwe P) (HR : HasRoll P) (d : Int) (d0 : 0 ≤ d) (d1 : d ≤ 39) : callF P (n + 3) 26 [.s (.int d)] h = .ok (.s .non) h := by
  have k : callF P (n + 2) 9 [.s (.int d)] h = .ok (.s (.bl true)) h := by
    have k := among_ok (n := n) (h := h) (HR.df 0 (by decide) rfl) (.int d) 0 39 rfl
    rw [am_int d0 d1] at k
    have d6 : divOk 6 = true := rfl
    have q : (240 : Int) / 6 = 40 := rfl
    rw [call_eq (H.df 9 (by decide) rfl) rfl, p_is_month]
    simp only [↓evd, evu, evl, Nat.reduceAdd, Nat.reduceSub, Nat.reduceLeDiff, Nat.reduceEqDiff, Nat.zero_le, Nat.le_refl, Nat.zero_add, Nat.add_zero, Int.reduceEq, Int.reduceLE, Int.reduceLT, Int.reduceAdd, Int.reduceSub, Int.reduceMul, Int.reduceNeg, Int.cast_ofNat_Int, Int.natCast_add, Int.natCast_zero, Int.natCast_one, H.gl 0 (by decide) rfl, H.gl 12 (by decide) rfl, d6, if_true, q, k]
  rw [call_eq (H.df 26 (by decide) rfl) rfl, p_need_month]
  simp only [↓evd, evu, evl, Nat.reduceAdd, Nat.reduceSub, Nat.reduceLeDiff, Nat.reduceEqDiff, Nat.zero_le, Nat.le_refl, Nat.zero_add, Nat.add_zero, Int.reduceEq, Int.reduceLE, Int.reduceLT, Int.reduceAdd, Int.reduceSub, Int.reduceMul, Int.reduceNeg, Int.cast_ofNat_Int, Int.natCast_add, Int.natCast_zero, Int.natCast_one, k]
theorem land_ok' (H : HasOwe P) (HR : HasRoll P) (o : RO fs as ss qs x) (a : Hs) (ha : a ∈ as) (d : Int) (d0 : 0 ≤ d) (d1 : d ≤ 239) : callF P (n + 8) 46 [.s (rollT fs (as.map hT) ss), .s (.str a.w), .s (.int d)] h = .ok (.s (.int (lastP a.ls d))) h := by
  have k1 := need_ok (n := n) (h := h) HR o
  have k2 := hof_ok (n := n + 5) (h := h) H o a ha
  have k3 := nday_ok (n := n + 4) (h := h) H HR d d0 d1
  have k4 := last_ok (n := n + 6) (h := h) H (o.hs.ok a ha).tb d d0
  rw [call_eq (H.df 46 (by decide) rfl) rfl, p_land_on]
  rw [hT] at k2
  simp only [↓evd, evu, evl, Nat.reduceAdd, Nat.reduceSub, Nat.reduceLeDiff, Nat.reduceEqDiff, Nat.zero_le, Nat.le_refl, Nat.zero_add, Nat.add_zero, Int.reduceEq, Int.reduceLE, Int.reduceLT, Int.reduceAdd, Int.reduceSub, Int.reduceMul, Int.reduceNeg, Int.cast_ofNat_Int, Int.natCast_add, Int.natCast_zero, Int.natCast_one, k1, k2, k3, at_h3, k4]
theorem keeps_ok (H : HasOwe P) (HR : HasRoll P) (o : RO fs as ss qs x) (a : Hs) (ha : a ∈ as) (d : Int) (d0 : 0 ≤ d) (d1 : d ≤ 239) : callF P (n + 8) 47 [.s (rollT fs (as.map hT) ss), .s (.str a.w), .s (.int d)] h = .ok (.s (.bl (decide (x ≤ lastP a.ls d)))) h := by
  have k1 := need_ok (n := n) (h := h) HR o
  have k2 := hof_ok (n := n + 5) (h := h) H o a ha
  have k3 := nday_ok (n := n + 4) (h := h) H HR d d0 d1
  have k4 := team_ok' (n := n + 5) (h := h) H o a ha d d0
  rw [call_eq (H.df 47 (by decide) rfl) rfl, p_keeps_team]
  simp only [↓evd, evu, evl, Nat.reduceAdd, Nat.reduceSub, Nat.reduceLeDiff, Nat.reduceEqDiff, Nat.zero_le, Nat.le_refl, Nat.zero_add, Nat.add_zero, Int.reduceEq, Int.reduceLE, Int.reduceLT, Int.reduceAdd, Int.reduceSub, Int.reduceMul, Int.reduceNeg, Int.cast_ofNat_Int, Int.natCast_add, Int.natCast_zero, Int.natCast_one, k1, k2, k3, k4]
theorem owedin_ok (H : HasOwe P) (HR : HasRoll P) (o : RO fs as ss qs x) (a : Hs) (ha : a ∈ as) (d : Int) (d0 : 0 ≤ d) (d1 : d ≤ 39) : callF P (n + 8) 48 [.s (rollT fs (as.map hT) ss), .s (.str a.w), .s (.int d)] h = .ok (.s (.int (due qs a.ls d))) h := by
  have k1 := need_ok (n := n) (h := h) HR o
  have k2 := hof_ok (n := n + 5) (h := h) H o a ha
  have k3 := nmonth_ok (n := n + 4) (h := h) H HR d d0 d1
  have k4 := due_ok' (n := n + 5) (h := h) H o a ha d d0 (by omega)
  rw [call_eq (H.df 48 (by decide) rfl) rfl, p_owed_in]
  simp only [↓evd, evu, evl, Nat.reduceAdd, Nat.reduceSub, Nat.reduceLeDiff, Nat.reduceEqDiff, Nat.zero_le, Nat.le_refl, Nat.zero_add, Nat.add_zero, Int.reduceEq, Int.reduceLE, Int.reduceLT, Int.reduceAdd, Int.reduceSub, Int.reduceMul, Int.reduceNeg, Int.cast_ofNat_Int, Int.natCast_add, Int.natCast_zero, Int.natCast_one, k1, k2, k3, k4]
theorem owed_ok (H : HasOwe P) (HR : HasRoll P) (o : RO fs as ss qs x) (a : Hs) (ha : a ∈ as) (d : Int) (d0 : 0 ≤ d) (d1 : d ≤ 9) : callF P (n + 8) 49 [.s (rollT fs (as.map hT) ss), .s (.str a.w), .s (.int d)] h = .ok (.s (.int (dueY qs a.ls d))) h := by
  have k1 := need_ok (n := n) (h := h) HR o
  have k2 := hof_ok (n := n + 5) (h := h) H o a ha
  have k3 := nyear_ok (n := n + 4) (h := h) H HR d d0 d1
  have k4 := duey_ok (n := n + 4) (h := h) H o a ha d d0 d1
  rw [call_eq (H.df 49 (by decide) rfl) rfl, p_owed]
  simp only [↓evd, evu, evl, Nat.reduceAdd, Nat.reduceSub, Nat.reduceLeDiff, Nat.reduceEqDiff, Nat.zero_le, Nat.le_refl, Nat.zero_add, Nat.add_zero, Int.reduceEq, Int.reduceLE, Int.reduceLT, Int.reduceAdd, Int.reduceSub, Int.reduceMul, Int.reduceNeg, Int.cast_ofNat_Int, Int.natCast_add, Int.natCast_zero, Int.natCast_one, k1, k2, k3, k4]
theorem prs_owe (f : Hs → Int) : ∀ as : List Hs, prsT (as.map fun a => T.tup [.str a.w, .int (f a)]) = some (as.map fun a => (.str a.w, .int (f a)))
  | [] => rfl
  | a :: as => by
    have := prs_owe f as
    simp only [List.map_cons, prsT, keyB, if_true, this]
    rfl
theorem allowed_ok (H : HasOwe P) (HR : HasRoll P) (o : RO fs as ss qs x) (d : Int) (d0 : 0 ≤ d) (d1 : d ≤ 9) : callF P (n + 8) 50 [.s (rollT fs (as.map hT) ss), .s (.int d)] h = .ok (.dt false (as.map fun a => (T.str a.w, T.int (dueY qs a.ls d)))) h := by
  have k1 := need_ok (n := n) (h := h) HR o
  have k3 := nyear_ok (n := n + 4) (h := h) H HR d d0 d1
  have bd : biD .dict [.tl (as.map fun a => T.tup [.str a.w, .int (dueY qs a.ls d)])] h = some (.dt false (as.map fun a => (T.str a.w, T.int (dueY qs a.ls d)))) := by
    show biDict h (.tl (as.map fun a => T.tup [.str a.w, .int (dueY qs a.ls d)])) = _
    simp only [biDict, lstOf, prs_owe (fun a => dueY qs a.ls d), Option.map_some]
    rw [mrg_nd]
    rw [List.map_map]
    have nd := o.hs.nd
    have e : as.map (Prod.fst ∘ fun a => (T.str a.w, T.int (dueY qs a.ls d))) = (as.map Hs.w).map T.str := by rw [List.map_map]; rfl
    rw [e, List.Nodup, List.pairwise_map]
    refine List.Pairwise.imp (fun {a b} ne e => ne (by injection e)) nd
  rw [call_eq (H.df 50 (by decide) rfl) rfl, p_all_owed]
  simp only [↓evd, evu, evl, Nat.reduceAdd, Nat.reduceSub, Nat.reduceLeDiff, Nat.reduceEqDiff, Nat.zero_le, Nat.le_refl, Nat.zero_add, Nat.add_zero, Int.reduceEq, Int.reduceLE, Int.reduceLT, Int.reduceAdd, Int.reduceSub, Int.reduceMul, Int.reduceNeg, Int.cast_ofNat_Int, Int.natCast_add, Int.natCast_zero, Int.natCast_one, k1, k3, at_r1, lcK]
  rw [lc_mm (p := hT) (q := fun a => T.tup [.str a.w, .int (dueY qs a.ls d)]) rfl]
  rotate_left
  · intro a ha
    have k4 := duey_ok (n := n + 4) (h := h) H o a ha d d0 d1
    rw [lcB_k rfl]
    rw [hT] at k4 ⊢
    simp only [↓evd, evu, evl, Nat.reduceAdd, Nat.reduceSub, Nat.reduceLeDiff, Nat.reduceEqDiff, Nat.zero_le, Nat.le_refl, Nat.zero_add, Nat.add_zero, Int.reduceEq, Int.reduceLE, Int.reduceLT, Int.reduceAdd, Int.reduceSub, Int.reduceMul, Int.reduceNeg, Int.cast_ofNat_Int, Int.natCast_add, Int.natCast_zero, Int.natCast_one, at_h0, k4]
  rw [List.nil_append]
  simp only [↓evd, evu, evl, Nat.reduceAdd, Nat.reduceSub, Nat.reduceLeDiff, Nat.reduceEqDiff, Nat.zero_le, Nat.le_refl, Nat.zero_add, Nat.add_zero, Int.reduceEq, Int.reduceLE, Int.reduceLT, Int.reduceAdd, Int.reduceSub, Int.reduceMul, Int.reduceNeg, Int.cast_ofNat_Int, Int.natCast_add, Int.natCast_zero, Int.natCast_one, bd]
end
end Rm
set_option Elab.async false
set_option linter.all false
set_option autoImplicit false
set_option maxRecDepth 100000
/-! the program: what houses give -/
namespace Rm
open Kp
def dueF : List Nat := [23, 24, 26, 9, 27, 28, 29]
def dueG : List Nat := [0, 12]
abbrev HasDue (P : Pg) : Prop := Has P dueF dueG
section
variable {P : Pg} {n : Nat} {h : LH}
theorem last_d (H : HasDue P) {most bound : Int} {qs : List (Int × Int)} (t : TbOk most bound qs) (d : Int) (d0 : 0 ≤ d) : callF P (n + 1) 23 [.s (tbT qs), .s (.int d)] h = .ok (.s (.int (lastP qs d))) h := by
  obtain ⟨p, ep, _, el⟩ := last_some t d0
  rw [call_eq (H.df 23 (by decide) rfl) rfl, p_last_of, tbT]
  simp only [↓evd, evu, evl, Nat.reduceAdd, Nat.reduceSub, Nat.reduceLeDiff, Nat.reduceEqDiff, Nat.zero_le, Nat.le_refl, Nat.zero_add, Nat.add_zero, Int.reduceEq, Int.reduceLE, Int.reduceLT, Int.reduceAdd, Int.reduceSub, Int.reduceMul, Int.reduceNeg, Int.cast_ofNat_Int, Int.natCast_add, Int.natCast_zero, Int.natCast_one, lcK]
  rw [lc_fm (e := ptT) (q := fun p => T.int p.2) (p := fun p => decide (p.1 ≤ d)) rfl]
  rotate_left
  · intro q hq
    rw [lcB_k rfl]
    have a0 : atT [T.int q.1, T.int q.2] 0 = some (.int q.1) := at0 _ _
    have a1 : atT [T.int q.1, T.int q.2] 1 = some (.int q.2) := L2.atI_nat (j := 1) rfl
    rw [ptT]
    by_cases z : q.1 ≤ d
    · simp only [↓evd, evu, evl, Nat.reduceAdd, Nat.reduceSub, Nat.reduceLeDiff, Nat.reduceEqDiff, Nat.zero_le, Nat.le_refl, Nat.zero_add, Nat.add_zero, Int.reduceEq, Int.reduceLE, Int.reduceLT, Int.reduceAdd, Int.reduceSub, Int.reduceMul, Int.reduceNeg, Int.cast_ofNat_Int, Int.natCast_add, Int.natCast_zero, Int.natCast_one, a0, a1, z]; rfl
    · simp only [↓evd, evu, evl, Nat.reduceAdd, Nat.reduceSub, Nat.reduceLeDiff, Nat.reduceEqDiff, Nat.zero_le, Nat.le_refl, Nat.zero_add, Nat.add_zero, Int.reduceEq, Int.reduceLE, Int.reduceLT, Int.reduceAdd, Int.reduceSub, Int.reduceMul, Int.reduceNeg, Int.cast_ofNat_Int, Int.natCast_add, Int.natCast_zero, Int.natCast_one, a0, a1, z]; rfl
  rw [List.nil_append]
  have al : atT ((qs.filter fun p => decide (p.1 ≤ d)).map fun p => T.int p.2) (-1) = some (.int p.2) := at_last (by rw [List.getLast?_map, ep]; rfl)
  simp only [↓evd, evu, evl, Nat.reduceAdd, Nat.reduceSub, Nat.reduceLeDiff, Nat.reduceEqDiff, Nat.zero_le, Nat.le_refl, Nat.zero_add, Nat.add_zero, Int.reduceEq, Int.reduceLE, Int.reduceLT, Int.reduceAdd, Int.reduceSub, Int.reduceMul, Int.reduceNeg, Int.cast_ofNat_Int, Int.natCast_add, Int.natCast_zero, Int.natCast_one, al, el]
variable {fs : List T} {as : List Hs} {ss : List T} {qs : List (Int × Int)} {x : Int}
theorem due_d (H : HasDue P) (o : RO fs as ss qs x) (a : Hs) (ha : a ∈ as) (m : Int) (m0 : 0 ≤ m) (m1 : m ≤ 1000) : callF P (n + 2) 24 [.s (rollT fs (as.map hT) ss), .s (hT a), .s (.int m)] h = .ok (.s (.int (due qs a.ls m))) h := by
  obtain ⟨y, r, rfl⟩ := o.e
  have tb := (o.hs.ok a ha).tb
  have l1 := last_d (n := n) (h := h) H tb (6 * m) (by omega)
  have b := last_bd tb (d := 6 * m) (by omega)
  have l2 := last_d (n := n) (h := h) H o.tb (lastP a.ls (6 * m)) b.1
  have mk : mulOk 6 m = true := by simp only [mulOk, decide_eq_true_eq]; left; omega
  rw [call_eq (H.df 24 (by decide) rfl) rfl, p_due_in, hT]
  simp only [↓evd, evu, evl, Nat.reduceAdd, Nat.reduceSub, Nat.reduceLeDiff, Nat.reduceEqDiff, Nat.zero_le, Nat.le_refl, Nat.zero_add, Nat.add_zero, Int.reduceEq, Int.reduceLE, Int.reduceLT, Int.reduceAdd, Int.reduceSub, Int.reduceMul, Int.reduceNeg, Int.cast_ofNat_Int, Int.natCast_add, Int.natCast_zero, Int.natCast_one, at_r0, at_f0, at_h3, H.gl 12 (by decide) rfl, mk, if_true, l1, l2]
  rfl
theorem nmonth_d (H : HasDue P) (HR : HasRoll P) (d : Int) (d0 : 0 ≤ d) (d1 : d ≤ 39) : callF P (n + 3) 26 [.s (.int d)] h = .ok (.s .non) h := by
  have k : callF P (n + 2) 9 [.s (.int d)] h = .ok (.s (.bl true)) h := by
    have k := among_ok (n := n) (h := h) (HR.df 0 (by decide) rfl) (.int d) 0 39 rfl
    rw [am_int d0 d1] at k
    have d6 : divOk 6 = true := rfl
    have q : (240 : Int) / 6 = 40 := rfl
    rw [call_eq (H.df 9 (by decide) rfl) rfl, p_is_month]
    simp only [↓evd, evu, evl, Nat.reduceAdd, Nat.reduceSub, Nat.reduceLeDiff, Nat.reduceEqDiff, Nat.zero_le, Nat.le_refl, Nat.zero_add, Nat.add_zero, Int.reduceEq, Int.reduceLE, Int.reduceLT, Int.reduceAdd, Int.reduceSub, Int.reduceMul, Int.reduceNeg, Int.cast_ofNat_Int, Int.natCast_add, Int.natCast_zero, Int.natCast_one, H.gl 0 (by decide) rfl, H.gl 12 (by decide) rfl, d6, if_true, q, k]
  rw [call_eq (H.df 26 (by decide) rfl) rfl, p_need_month]
  simp only [↓evd, evu, evl, Nat.reduceAdd, Nat.reduceSub, Nat.reduceLeDiff, Nat.reduceEqDiff, Nat.zero_le, Nat.le_refl, Nat.zero_add, Nat.add_zero, Int.reduceEq, Int.reduceLE, Int.reduceLT, Int.reduceAdd, Int.reduceSub, Int.reduceMul, Int.reduceNeg, Int.cast_ofNat_Int, Int.natCast_add, Int.natCast_zero, Int.natCast_one, k]
theorem days_given_ok (H : HasDue P) (o : RO fs as ss qs x) (m : Int) (m0 : 0 ≤ m) (m1 : m ≤ 1000) : callF P (n + 3) 28 [.s (rollT fs (as.map hT) ss), .s (.int m)] h = .ok (.tl (as.map fun a => .int (due qs a.ls m))) h := by
  rw [call_eq (H.df 28 (by decide) rfl) rfl, p_days_given]
  simp only [↓evd, evu, evl, Nat.reduceAdd, Nat.reduceSub, Nat.reduceLeDiff, Nat.reduceEqDiff, Nat.zero_le, Nat.le_refl, Nat.zero_add, Nat.add_zero, Int.reduceEq, Int.reduceLE, Int.reduceLT, Int.reduceAdd, Int.reduceSub, Int.reduceMul, Int.reduceNeg, Int.cast_ofNat_Int, Int.natCast_add, Int.natCast_zero, Int.natCast_one, at_r1, lcK]
  rw [lc_mm (p := hT) (q := fun a => T.int (due qs a.ls m)) rfl]
  rotate_left
  · intro a ha
    have k4 := due_d (n := n) (h := h) H o a ha m m0 m1
    rw [lcB_k rfl]
    simp only [↓evd, evu, evl, Nat.reduceAdd, Nat.reduceSub, Nat.reduceLeDiff, Nat.reduceEqDiff, Nat.zero_le, Nat.le_refl, Nat.zero_add, Nat.add_zero, Int.reduceEq, Int.reduceLE, Int.reduceLT, Int.reduceAdd, Int.reduceSub, Int.reduceMul, Int.reduceNeg, Int.cast_ofNat_Int, Int.natCast_add, Int.natCast_zero, Int.natCast_one, k4]
  rw [List.nil_append]
  simp only [↓evd, evu, evl, Nat.reduceAdd, Nat.reduceSub, Nat.reduceLeDiff, Nat.reduceEqDiff, Nat.zero_le, Nat.le_refl, Nat.zero_add, Nat.add_zero, Int.reduceEq, Int.reduceLE, Int.reduceLT, Int.reduceAdd, Int.reduceSub, Int.reduceMul, Int.reduceNeg, Int.cast_ofNat_Int, Int.natCast_add, Int.natCast_zero, Int.natCast_one]
/-- things and numbers side by side -/
theorem zip2_map {α : Type} (f g : α → T) : ∀ as : List α, zip2 (as.map f) (as.map g) = as.map fun a => .tup [f a, g a]
  | [] => rfl
  | a :: as => by simp [zip2, zip2_map f g as]
theorem bd_dict {α : Type} (k : α → List Nat) (f : α → Int) (as : List α) (nd : (as.map k).Nodup) (h : LH) : biD .dict [.tl (as.map fun a => T.tup [.str (k a), .int (f a)])] h = some (.dt false (as.map fun a => (T.str (k a), T.int (f a)))) := by
  have pr : ∀ as : List α, prsT (as.map fun a => T.tup [.str (k a), .int (f a)]) = some (as.map fun a => (.str (k a), .int (f a))) := by
    intro as
    induction as with
    | nil => rfl
    | cons a as ih =>
      simp only [List.map_cons, prsT, keyB, if_true, ih]
      rfl
  show biDict h (.tl (as.map fun a => T.tup [.str (k a), .int (f a)])) = _
  simp only [biDict, lstOf, pr, Option.map_some]
  rw [mrg_nd]
  rw [List.map_map]
  have e : as.map (Prod.fst ∘ fun a => (T.str (k a), T.int (f a))) = (as.map k).map T.str := by rw [List.map_map]; rfl
  rw [e, List.Nodup, List.pairwise_map]
  refine List.Pairwise.imp (fun {a b} ne e => ne (by injection e)) nd
theorem by_names_ok {α : Type} (H : HasDue P) (as : List α) (k : α → List Nat) (r : α → List T) (f : α → Int) (nd : (as.map k).Nodup) : callF P (n + 1) 27 [.s (.tup (as.map fun a => .tup (.str (k a) :: r a))), .vw (as.map fun a => .int (f a))] h = .ok (.dt false (as.map fun a => (T.str (k a), T.int (f a)))) h := by
  rw [call_eq (H.df 27 (by decide) rfl) rfl, p_by_names]
  have zd : zipD [Ex.v 0, Ex.v 1] [D.s (T.tup (as.map fun a => T.tup (T.str (k a) :: r a))), D.vw (as.map fun a => T.int (f a))] h = some (as.map fun a => T.tup [.tup (.str (k a) :: r a), .int (f a)], []) := by
    rw [← zip2_map]; rfl
  simp only [↓evd, evu, evl, Nat.reduceAdd, Nat.reduceSub, Nat.reduceLeDiff, Nat.reduceEqDiff, Nat.zero_le, Nat.le_refl, Nat.zero_add, Nat.add_zero, Int.reduceEq, Int.reduceLE, Int.reduceLT, Int.reduceAdd, Int.reduceSub, Int.reduceMul, Int.reduceNeg, Int.cast_ofNat_Int, Int.natCast_add, Int.natCast_zero, Int.natCast_one, lcK, zd]
  rw [lc_mm (p := fun a => T.tup [.tup (.str (k a) :: r a), .int (f a)]) (q := fun a => T.tup [.str (k a), .int (f a)]) rfl]
  rotate_left
  · intro a ha
    rw [lcB_k (by simp only [b_t, bs_1, bs_0]; rfl)]
    simp only [↓evd, evu, evl, Nat.reduceAdd, Nat.reduceSub, Nat.reduceLeDiff, Nat.reduceEqDiff, Nat.zero_le, Nat.le_refl, Nat.zero_add, Nat.add_zero, Int.reduceEq, Int.reduceLE, Int.reduceLT, Int.reduceAdd, Int.reduceSub, Int.reduceMul, Int.reduceNeg, Int.cast_ofNat_Int, Int.natCast_add, Int.natCast_zero, Int.natCast_one, at0]
  rw [List.nil_append]
  simp only [↓evd, evu, evl, Nat.reduceAdd, Nat.reduceSub, Nat.reduceLeDiff, Nat.reduceEqDiff, Nat.zero_le, Nat.le_refl, Nat.zero_add, Nat.add_zero, Int.reduceEq, Int.reduceLE, Int.reduceLT, Int.reduceAdd, Int.reduceSub, Int.reduceMul, Int.reduceNeg, Int.cast_ofNat_Int, Int.natCast_add, Int.natCast_zero, Int.natCast_one, bd_dict k f as nd]
theorem gives_ok (H : HasDue P) (HR : HasRoll P) (o : RO fs as ss qs x) (m : Int) (m0 : 0 ≤ m) (m1 : m ≤ 39) : callF P (n + 8) 29 [.s (rollT fs (as.map hT) ss), .s (.int m)] h = .ok (.dt false (as.map fun a => (T.str a.w, T.int (due qs a.ls m)))) h := by
  have k1 := need_ok (n := n) (h := h) HR o
  have k2 := nmonth_d (n := n + 4) (h := h) H HR m m0 m1
  have k3 := days_given_ok (n := n + 4) (h := h) H o m m0 (by omega)
  have k4 := by_names_ok (n := n + 6) (h := h) H as Hs.w (fun a => [.int a.m, .int a.k, tbT a.ls]) (fun a => due qs a.ls m) o.hs.nd
  rw [call_eq (H.df 29 (by decide) rfl) rfl, p_gives]
  simp only [↓evd, evu, evl, Nat.reduceAdd, Nat.reduceSub, Nat.reduceLeDiff, Nat.reduceEqDiff, Nat.zero_le, Nat.le_refl, Nat.zero_add, Nat.add_zero, Int.reduceEq, Int.reduceLE, Int.reduceLT, Int.reduceAdd, Int.reduceSub, Int.reduceMul, Int.reduceNeg, Int.cast_ofNat_Int, Int.natCast_add, Int.natCast_zero, Int.natCast_one, k1, k2, k3, at_r1]
  rw [show (as.map hT) = as.map fun a => T.tup (.str a.w :: [.int a.m, .int a.k, tbT a.ls]) from rfl]
  simp only [↓evd, evu, evl, Nat.reduceAdd, Nat.reduceSub, Nat.reduceLeDiff, Nat.reduceEqDiff, Nat.zero_le, Nat.le_refl, Nat.zero_add, Nat.add_zero, Int.reduceEq, Int.reduceLE, Int.reduceLT, Int.reduceAdd, Int.reduceSub, Int.reduceMul, Int.reduceNeg, Int.cast_ofNat_Int, Int.natCast_add, Int.natCast_zero, Int.natCast_one, k4]
end
end Rm
set_option Elab.async false
set_option linter.all false
set_option autoImplicit false
set_option maxRecDepth 100000
/-! plain data, small: reprs, == -/
namespace Rm
def Gw (k d : Nat) (t : T) : Prop := gdT t = true ∧ wtT t ≤ k ∧ dpT t ≤ d
theorem gw_list {k d : Nat} : ∀ {xs : List T}, (∀ x ∈ xs, Gw k d x) → gdTs xs = true ∧ wtTs xs ≤ (k + 1) * xs.length ∧ dpTs xs ≤ d
  | [], _ => ⟨rfl, Nat.le_refl _, Nat.zero_le _⟩
  | x :: xs, h => by
    obtain ⟨a, b, c⟩ := h x (List.mem_cons_self ..)
    obtain ⟨a', b', c'⟩ := gw_list fun y hy => h y (List.mem_cons_of_mem _ hy)
    refine ⟨by simp [gdTs, a, a'], ?_, ?_⟩
    · simp only [wtTs, List.length_cons, Nat.mul_succ]; omega
    · simp only [dpTs]; omega
theorem gw_tup {k d m : Nat} {xs : List T} (h : ∀ x ∈ xs, Gw k d x) (l : xs.length ≤ m) : Gw ((k + 1) * m) (d + 1) (.tup xs) := by
  obtain ⟨a, b, c⟩ := gw_list h
  refine ⟨by simp [gdT, a], ?_, by simp only [dpT]; omega⟩
  simp only [wtT]
  exact Nat.le_trans b (Nat.mul_le_mul_left _ l)
theorem Gw.mono {k d k' d' : Nat} {t : T} (g : Gw k d t) (a : k ≤ k') (b : d ≤ d') : Gw k' d' t := ⟨g.1, Nat.le_trans g.2.1 a, Nat.le_trans g.2.2 b⟩
theorem repr_gw {k d : Nat} {t : T} (h : LH) (g : Gw k d t) (hk : k ≤ 2 ^ 20) (hd : d ≤ 60) : biD .repr [.s t] h = some (.s (.str (shT t))) :=
  reprT_ok h t g.1 (Nat.le_trans g.2.2 hd) (Nat.le_trans g.2.1 hk)
theorem gw_num {t : T} (h : NumT t) : Gw 41 0 t := by
  have g := num_gd h
  obtain ⟨m, rfl, _⟩ := h
  exact ⟨g, Nat.le_refl _, Nat.le_refl _⟩
theorem gw_nm {t : T} (h : nmT t = true) : Gw 41 0 t := by
  have g := nm_gd h
  have l := (word_nm h).l
  obtain ⟨s, rfl⟩ := nm_strT h
  refine ⟨g, ?_, Nat.le_refl _⟩
  simp only [wtT]
  change s.length ≤ 12 at l
  omega
theorem gw_row {t : T} (h : RowN t) : Gw 126 1 t := by
  obtain ⟨xs, rfl, _, l, nx⟩ := h
  exact gw_tup (k := 41) (d := 0) (m := 3) (fun x hx => gw_num (nx x hx)) l
theorem gw_tab {t : T} (h : TabN t) : Gw 1270 2 t := by
  obtain ⟨xs, rfl, l, nx⟩ := h
  exact gw_tup (k := 126) (d := 1) (m := 10) (fun x hx => gw_row (nx x hx)) l
theorem gw_four {a b c d : T} (h1 : Gw 41 0 a) (h2 : Gw 41 0 b) (h3 : Gw 41 0 c) (h4 : Gw 1270 2 d) : Gw 5084 3 (.tup [a, b, c, d]) := by
  refine gw_tup (k := 1270) (d := 2) (m := 4) (fun x hx => ?_) (by simp)
  simp only [List.mem_cons, List.not_mem_nil, or_false] at hx
  rcases hx with rfl | rfl | rfl | rfl
  · exact h1.mono (by decide) (by decide)
  · exact h2.mono (by decide) (by decide)
  · exact h3.mono (by decide) (by decide)
  · exact h4
theorem gw_house {x : T} (h : houseB x = true) : Gw 5084 3 x := by
  obtain ⟨a, b, c, d, rfl, nm, n1, n2, tb⟩ := house_n h
  exact gw_four (gw_nm nm) (gw_num n1) (gw_num n2) (gw_tab tb)
theorem gw_stretch {x : T} (h : stretchB x = true) : Gw 5084 3 x := by
  obtain ⟨a, b, c, d, rfl, nm, n1, n2, tb⟩ := stretch_n h
  exact gw_four (gw_nm nm) (gw_num n1) (gw_nm n2) (gw_tab tb)
theorem gw_act {fs : List T} (o : ActOk fs) : Gw 40680 4 (.tup fs) := by
  obtain ⟨a0, a1, a2, a3, a4, a5, a6, rfl, n0, n1, n2, n3, n4, n5, n6⟩ := act_n o
  refine (gw_tup (k := 1270) (d := 2) (m := 7) (fun x hx => ?_) (by simp)).mono (by decide) (by decide)
  simp only [List.mem_cons, List.not_mem_nil, or_false] at hx
  rcases hx with rfl | rfl | rfl | rfl | rfl | rfl | rfl
  · exact (gw_tab n0).mono (by decide) (by decide)
  · exact (gw_row n1).mono (by decide) (by decide)
  · exact (gw_num n2).mono (by decide) (by decide)
  · exact (gw_num n3).mono (by decide) (by decide)
  · exact (gw_num n4).mono (by decide) (by decide)
  · exact (gw_num n5).mono (by decide) (by decide)
  · exact (gw_num n6).mono (by decide) (by decide)
theorem gw_roll {fs hs ss : List T} (o : RollOk fs hs ss) : Gw 122043 5 (rollT fs hs ss) := by
  refine gw_tup (k := 40680) (d := 4) (m := 3) (fun x hx => ?_) (by simp)
  simp only [List.mem_cons, List.not_mem_nil, or_false] at hx
  rcases hx with rfl | rfl | rfl
  · exact gw_act o.act
  · exact gw_tup (k := 5084) (d := 3) (m := 8) (fun x hx => gw_house (List.all_eq_true.mp o.hou.all x hx)) o.hl
  · exact (gw_tup (k := 5084) (d := 3) (m := 6) (fun x hx => gw_stretch (List.all_eq_true.mp o.str.all x hx)) o.sl).mono (by decide) (by decide)
open PySem in
mutual
theorem eqv_refl : ∀ d : PyData, d.canLay0 = true → PyData.eqv d d = true
  | .none, _ => by simp [PyData.eqv]
  | .bool b, _ => by simp [PyData.eqv]
  | .int i, _ => by simp [PyData.eqv]
  | .str s, _ => by simp [PyData.eqv]
  | .list xs, h => by
    rw [PyData.eqv]; exact eqvs_refl xs (by simpa [PyData.canLay0] using h)
  | .tuple xs, h => by
    rw [PyData.eqv]; exact eqvs_refl xs (by simpa [PyData.canLay0] using h)
  | .dict kvs, h => by simp [PyData.canLay0] at h
theorem eqvs_refl : ∀ ds : List PyData, PyData.canLayAll0 ds = true → PyData.eqvAll ds ds = true
  | [], _ => by simp [PyData.eqvAll]
  | d :: ds, h => by
    have h' : d.canLay0 = true ∧ PyData.canLayAll0 ds = true := by simpa [PyData.canLayAll0] using h
    rw [PyData.eqvAll, eqv_refl d h'.1, eqvs_refl ds h'.2]; rfl
end
theorem dat1_gd {h : LH} : ∀ {xs : List T}, gdTs xs = true → dat1s h xs = datTs xs
  | [], _ => rfl
  | x :: xs, g => by
    rw [gdTs, Bool.and_eq_true] at g
    rw [dat1s, datTs, dat1_gd g.2]
    have : dat1 h x = datT x := by
      cases x <;> first | rfl | (simp [gdT] at g; done)
    rw [this]
theorem ne_tl {xs : List T} (h : LH) (g : gdTs xs = true) (d : dpTs xs ≤ 50) : neD (.tl xs) (.tl xs) h = some false := by
  obtain ⟨ds, e, c1, _, _, _, dp, _⟩ := gd_dats xs g
  have ed : datD h (.tl xs) = some (.list ds) := by
    show (dat1s h xs).map _ = _
    rw [dat1_gd g, e]; rfl
  have sh : PySem.SeqAt.shaped (.list ds) = true := by
    simp only [PySem.SeqAt.shaped, PySem.PyData.canLay0, PySem.PyData.depth, c1, dp, Bool.true_and, decide_eq_true_eq]
    omega
  have ev : PySem.PyData.eqv (.list ds) (.list ds) = true := eqv_refl _ (by simpa [PySem.PyData.canLay0] using c1)
  have es : eqS (.tl xs) (.tl xs) = none := rfl
  simp only [neD, dctOf, es, eqN, ed, sh, Bool.and_self, if_true, ev, Option.map_some, Bool.not_true]
theorem ne_tup {xs : List T} (h : LH) (g : gdTs xs = true) (d : dpTs xs ≤ 50) : neD (.s (.tup xs)) (.s (.tup xs)) h = some false := by
  obtain ⟨ds, e, c1, _, _, _, dp, _⟩ := gd_dats xs g
  have ed : datD h (.s (.tup xs)) = some (.tuple ds) := by
    show (dat1s h xs).map _ = _
    rw [dat1_gd g, e]; rfl
  have sh : PySem.SeqAt.shaped (.tuple ds) = true := by
    simp only [PySem.SeqAt.shaped, PySem.PyData.canLay0, PySem.PyData.depth, c1, dp, Bool.true_and, decide_eq_true_eq]
    omega
  have ev : PySem.PyData.eqv (.tuple ds) (.tuple ds) = true := eqv_refl _ (by simpa [PySem.PyData.canLay0] using c1)
  have es : eqS (.s (.tup xs)) (.s (.tup xs)) = none := rfl
  simp only [neD, dctOf, es, eqN, ed, sh, Bool.and_self, if_true, ev, Option.map_some, Bool.not_true]
theorem lc_at {h : LH} {f : T → LH → R (Option T)} {gd : LH → Bool} (hg : gd h = true) : ∀ (xs ys acc : List T), xs.length = ys.length → (∀ (i : Nat) (x y : T), xs[i]? = some x → ys[i]? = some y → f x h = .ok (some y) h) → lcL f gd xs acc h = .ok (acc ++ ys) h
  | [], [], acc, _, _ => by simp [lcL, hg]
  | [], _ :: _, _, l, _ => by simp at l
  | _ :: _, [], _, l, _ => by simp at l
  | x :: xs, y :: ys, acc, l, hf => by
    unfold lcL
    rw [if_pos hg, hf 0 x y rfl rfl]
    simp only
    rw [lc_at hg xs ys (acc ++ [y]) (by simpa using l) fun i a b h1 h2 => hf (i + 1) a b (by simpa using h1) (by simpa using h2)]
    simp
theorem gd_datV (h : LH) {xs : List T} (g : gdTs xs = true) : datD h (.tl xs) = datT (.fl xs) ∧ datD h (.vw xs) = datT (.fl xs) := by
  refine ⟨?_, ?_⟩ <;> (show (dat1s h xs).map _ = _; rw [dat1_gd g]; simp [datT])
theorem repr_tl {k d m : Nat} {xs : List T} (h : LH) (g : ∀ x ∈ xs, Gw k d x) (l : xs.length ≤ m) (hk : (k + 1) * m ≤ 2 ^ 20) (hd : d + 1 ≤ 60) :
    biD .repr [.tl xs] h = some (.s (.str (shT (.fl xs)))) ∧ biD .repr [.vw xs] h = some (.s (.str (shT (.fl xs)))) := by
  obtain ⟨a, b, c⟩ := gw_list g
  have r : reprD h (.s (.fl xs)) = some (.s (.str (shT (.fl xs)))) := reprT_ok h (.fl xs) (by simpa [gdT] using a) (by simp only [dpT]; omega) (by simp only [wtT]; exact Nat.le_trans b (Nat.le_trans (Nat.mul_le_mul_left _ l) hk))
  have e := gd_datD h (.fl xs) (by simpa [gdT] using a)
  have v := gd_datV h a
  refine ⟨?_, ?_⟩
  · show reprD h (.tl xs) = _
    rw [← r]; unfold reprD; rw [v.1, e]
  · show reprD h (.vw xs) = _
    rw [← r]; unfold reprD; rw [v.2, e]
end Rm
set_option Elab.async false
set_option linter.all false
set_option autoImplicit false
set_option maxRecDepth 100000
/-! k31: numbers drawn -/
namespace Rm
open K31
/-- a law that draws so -/
structure FD (P : Pg) : Prop where
  cell : P.df 1000 = some l_law_cell_at
  mixed : P.df 1001 = some l_law_mixed
  state : P.df 1002 = some l_law_state
  draw : P.df 1003 = some l_law_draw
abbrev sLeft : List Nat := [108, 101, 102, 116]
abbrev sSeed : List Nat := [115, 101, 101, 100]
abbrev sAt : List Nat := [97, 116]
/-- the heap with the state behind -/
def Hd (pre : LH) (a s k : Int) : LH := pre ++ [.dct false [(.str sLeft, .int a), (.str sSeed, .int s), (.str sAt, .int k)]]
/-- .. with at least b draws to go -/
def Iv (b : Nat) (pre h : LH) : Prop := ∃ a s k : Int, h = Hd pre a s k ∧ 0 ≤ k ∧ k + b ≤ 1000000
theorem Iv.less {a b : Nat} {tl h : LH} (i : Iv b tl h) (l : a ≤ b) : Iv a tl h := by
  obtain ⟨x, s, k, h0, l3, l4⟩ := i
  exact ⟨x, s, k, h0, l3, by omega⟩
theorem hd_at (pre : LH) (a s k : Int) : (Hd pre a s k)[pre.length]? = some (.dct false [(.str sLeft, .int a), (.str sSeed, .int s), (.str sAt, .int k)]) := by
  simp [Hd]
theorem lk_l (a b c : T) : lookT (.str [108, 101, 102, 116]) [(.str sLeft, a), (.str sSeed, b), (.str sAt, c)] = some a := rfl
theorem lk_s (a b c : T) : lookT (.str [115, 101, 101, 100]) [(.str sLeft, a), (.str sSeed, b), (.str sAt, c)] = some b := rfl
theorem lk_a (a b c : T) : lookT (.str [97, 116]) [(.str sLeft, a), (.str sSeed, b), (.str sAt, c)] = some c := rfl
theorem put_k (pre : LH) (a s k k' : Int) (sg : Sg) : chg (.at pre.length) sg (Hd pre a s k) (fPut (.str [97, 116]) (.int k')) = .nx sg (Hd pre a s k') := by
  unfold chg
  simp only [hd_at]
  simp [fPut, Hd, List.set_append_right, keyOk, keyB, putT, show sizeOk 4 = true from rfl]
theorem put_l (pre : LH) (a a' s k : Int) (sg : Sg) : chg (.at pre.length) sg (Hd pre a s k) (fPut (.str [108, 101, 102, 116]) (.int a')) = .nx sg (Hd pre a' s k) := by
  unfold chg
  simp only [hd_at]
  simp [fPut, Hd, List.set_append_right, keyOk, keyB, putT, show sizeOk 4 = true from rfl]
def mixV (c k : Int) : Int := (c % 2147483647 * (48271 + 2 * k * k) + 69621 * k + 11) % 2147483647 * 69621 % 2147483629
theorem mixed_ok {P : Pg} (H : FD P) (n : Nat) (c k : Int) (h : LH) (k0 : 0 ≤ k) (k1 : k ≤ 1000100) : ∃ v, callF P (n + 1) 1001 [.s (.int c), .s (.int k)] h = .ok (.s (.int v)) h ∧ 0 ≤ v ∧ v < 2147483629 := by
  have q1 : divOk 2147483647 = true := rfl
  have q2 : divOk 2147483629 = true := rfl
  have q3 : mulOk 2 k = true := by simp only [mulOk, decide_eq_true_eq]; left; omega
  have q4 : mulOk (2 * k) k = true := by simp only [mulOk, decide_eq_true_eq]; right; omega
  have q5 : mulOk 69621 k = true := by simp only [mulOk, decide_eq_true_eq]; left; omega
  have q6 : ∀ y x, mulOk (y % 2147483647) x = true := fun y x => by
    have a1 := Int.emod_nonneg y (b := 2147483647) (by decide)
    have a2 := Int.emod_lt_of_pos y (b := 2147483647) (by decide)
    simp only [mulOk, decide_eq_true_eq]; left; omega
  refine ⟨mixV c k, ?_, Int.emod_nonneg _ (by decide), Int.emod_lt_of_pos _ (by decide)⟩
  rw [call_eq H.mixed rfl, l_law_mixed]
  simp only [↓evd, evu, evl, Nat.reduceAdd, Nat.reduceSub, Nat.reduceLeDiff, Nat.reduceEqDiff, Nat.zero_le, Nat.le_refl, Nat.zero_add, Nat.add_zero, Int.reduceEq, Int.reduceLE, Int.reduceLT, Int.reduceAdd, Int.reduceSub, Int.reduceMul, Int.reduceNeg, Int.cast_ofNat_Int, Int.natCast_add, Int.natCast_zero, Int.natCast_one, q1, q2, q3, q4, q5, q6, if_true]
  rfl
theorem draw_ok {P : Pg} (H : FD P) (n b : Nat) (many : Int) (pre h : LH) (i : Iv (b + 1) pre h) (m0 : 0 < many) (m1 : many < 4294967296) :
    (callF P (n + 2) 1003 [.s (.ref pre.length), .s (.int many)] h).W (fun d h' => ∃ v, d = .s (.int v) ∧ 0 ≤ v ∧ v < many ∧ Iv b pre h') fx := by
  obtain ⟨a, s, k, rfl, l3, l4⟩ := i
  have dv : divOk many = true := by simp only [divOk, decide_eq_true_eq]; omega
  have d64 : divOk 64 = true := rfl
  refine call_W H.draw rfl ?_
  rw [l_law_draw]
  by_cases z : 0 < a
  · simp only [↓evd, evu, evl, Nat.reduceAdd, Nat.reduceSub, Nat.reduceLeDiff, Nat.reduceEqDiff, Nat.zero_le, Nat.le_refl, Nat.zero_add, Nat.add_zero, Int.reduceEq, Int.reduceLE, Int.reduceLT, Int.reduceAdd, Int.reduceSub, Int.reduceMul, Int.reduceNeg, Int.cast_ofNat_Int, Int.natCast_add, Int.natCast_zero, Int.natCast_one, ix_ref (hd_at _ _ _ _), lk_l, lk_a, z, dv, if_true, put_k, put_l, m0]
    exact W_ok.mpr ⟨_, rfl, Int.emod_nonneg _ (by omega), Int.emod_lt_of_pos _ m0, _, _, _, rfl, by omega, by omega⟩
  · obtain ⟨v, e, v0, v1⟩ := mixed_ok H n s (k + 1) (Hd pre a s (k + 1)) (by omega) (by omega)
    obtain ⟨w, f, w0, w1⟩ := mixed_ok H n v (40 + (k + 1)) (Hd pre a s (k + 1)) (by omega) (by omega)
    obtain ⟨u, g, u0, u1⟩ := mixed_ok H n w (7 + (k + 1)) (Hd pre a s (k + 1)) (by omega) (by omega)
    have q1 : mulOk w 2147483647 = true := by simp only [mulOk, decide_eq_true_eq]; left; omega
    simp only [↓evd, evu, evl, Nat.reduceAdd, Nat.reduceSub, Nat.reduceLeDiff, Nat.reduceEqDiff, Nat.zero_le, Nat.le_refl, Nat.zero_add, Nat.add_zero, Int.reduceEq, Int.reduceLE, Int.reduceLT, Int.reduceAdd, Int.reduceSub, Int.reduceMul, Int.reduceNeg, Int.cast_ofNat_Int, Int.natCast_add, Int.natCast_zero, Int.natCast_one, ix_ref (hd_at _ _ _ _), lk_l, lk_a, lk_s, z, dv, d64, if_true, put_k, m0, e, f, g, q1]
    exact W_ok.mpr ⟨_, rfl, Int.emod_nonneg _ (by omega), Int.emod_lt_of_pos _ m0, _, _, _, rfl, by omega, by omega⟩
theorem pw10 : powOk 10 18 = true := rfl
theorem state_dsp (a s : Int) : dspD false [.str [108, 101, 102, 116], .int a, .str [115, 101, 101, 100], .int s, .str [97, 116], .int 0] = some (.dt false [(.str sLeft, .int a), (.str sSeed, .int s), (.str sAt, .int 0)]) := rfl
theorem cell_ok {P : Pg} (H : FD P) (n : Nat) (ns : List Int) (k : Nat) (h : LH) : ∃ c, callF P (n + 1) 1000 [.s (.fl (ns.map T.int)), .s (.int k)] h = .ok (.s (.int c)) h := by
  rw [call_eq H.cell rfl, l_law_cell_at]
  have bl : biLen h (.s (.fl (ns.map T.int))) = some (.s (.int ((ns.map T.int).length : Nat))) := rfl
  by_cases z : k < ns.length
  · have c : (k : Int) < ((ns.map T.int).length : Nat) := by rw [List.length_map]; omega
    have ix : ixD (.s (.fl (ns.map T.int))) (.s (.int k)) h = some (.s (.int ns[k])) := by
      simp only [ixD, dctOf, seqOf, lstOf, at_map z]
      rfl
    exact ⟨ns[k], by simp only [↓evd, evu, evl, Nat.reduceAdd, Nat.reduceSub, Nat.reduceLeDiff, Nat.reduceEqDiff, Nat.zero_le, Nat.le_refl, Nat.zero_add, Nat.add_zero, Int.reduceEq, Int.reduceLE, Int.reduceLT, Int.reduceAdd, Int.reduceSub, Int.reduceMul, Int.reduceNeg, Int.cast_ofNat_Int, Int.natCast_add, Int.natCast_zero, Int.natCast_one, bl, c, ix]⟩
  · have c : ¬ ((k : Int) < ((ns.map T.int).length : Nat)) := by rw [List.length_map]; omega
    exact ⟨0, by simp only [↓evd, evu, evl, Nat.reduceAdd, Nat.reduceSub, Nat.reduceLeDiff, Nat.reduceEqDiff, Nat.zero_le, Nat.le_refl, Nat.zero_add, Nat.add_zero, Int.reduceEq, Int.reduceLE, Int.reduceLT, Int.reduceAdd, Int.reduceSub, Int.reduceMul, Int.reduceNeg, Int.cast_ofNat_Int, Int.natCast_add, Int.natCast_zero, Int.natCast_one, bl, c]⟩
theorem state_ok {P : Pg} (H : FD P) (n : Nat) (ns : List Int) (k : Nat) (l : k ≤ 1000) (h : LH) : ∃ a s : Int, callF P (n + 2) 1002 [.s (.fl (ns.map T.int)), .s (.int k)] h = .ok (.dt false [(.str sLeft, .int a), (.str sSeed, .int s), (.str sAt, .int 0)]) h := by
  obtain ⟨c, ec⟩ := cell_ok H n ns k h
  obtain ⟨v, e, v0, v1⟩ := mixed_ok H n c k h (by omega) (by omega)
  rw [call_eq H.state rfl, l_law_state]
  by_cases z : (10 : Int) ^ (18 : Int).toNat ≤ c
  · exact ⟨c, v, by simp only [↓evd, evu, evl, Nat.reduceAdd, Nat.reduceSub, Nat.reduceLeDiff, Nat.reduceEqDiff, Nat.zero_le, Nat.le_refl, Nat.zero_add, Nat.add_zero, Int.reduceEq, Int.reduceLE, Int.reduceLT, Int.reduceAdd, Int.reduceSub, Int.reduceMul, Int.reduceNeg, Int.cast_ofNat_Int, Int.natCast_add, Int.natCast_zero, Int.natCast_one, ec, pw10, if_true, z, e, state_dsp]⟩
  · exact ⟨0, v, by simp only [↓evd, evu, evl, Nat.reduceAdd, Nat.reduceSub, Nat.reduceLeDiff, Nat.reduceEqDiff, Nat.zero_le, Nat.le_refl, Nat.zero_add, Nat.add_zero, Int.reduceEq, Int.reduceLE, Int.reduceLT, Int.reduceAdd, Int.reduceSub, Int.reduceMul, Int.reduceNeg, Int.cast_ofNat_Int, Int.natCast_add, Int.natCast_zero, Int.natCast_one, ec, pw10, if_true, z, e, state_dsp]⟩
end Rm
set_option Elab.async false
set_option linter.all false
set_option autoImplicit false
set_option maxRecDepth 100000
/-! k31: names -/
namespace Rm
open K31
theorem nm_str {t : T} (h : nmT t = true) : ∃ w, t = .str w := by
  cases t <;> simp [nmT] at h
  exact ⟨_, rfl⟩
theorem nm_len {s : List Nat} (h : nmT (.str s) = true) : 1 ≤ s.length ∧ s.length ≤ 8 ∧ s.all lowB = true := by
  simp only [nmT, Bool.and_eq_true, decide_eq_true_eq] at h
  exact ⟨h.1.1, h.1.2, h.2⟩
theorem let_nodup : LET.Nodup := by decide +kernel
theorem free_l (p : List Nat) (ss : List (List Nat)) (l : ss.length < 26) : ∃ c ∈ LET, p ++ [c] ∉ ss := by
  apply Classical.byContradiction
  intro no
  have sub : (LET.map fun c => p ++ [c]) ⊆ ss := fun w hw => by
    obtain ⟨c, hc, rfl⟩ := List.mem_map.mp hw
    exact Classical.byContradiction fun h => no ⟨c, hc, h⟩
  have nd : (LET.map fun c => p ++ [c]).Nodup := by
    rw [List.Nodup, List.pairwise_map]
    refine List.Pairwise.imp (fun {a b} ne e => ne ?_) let_nodup
    have := List.append_cancel_left e
    injection this
  have := List.Nodup.length_le_of_subset nd sub
  simp at this
  omega
/-- the i-th letter, round and round -/
def lt (i : Nat) : Nat := LET.getD (i % 26) 0
theorem lt_idx : ∀ i < 26, meIndex (.s (.str LET)) [.s (.str [lt i])] = some (.s (.int i)) := by decide +kernel
theorem lt_at : ∀ i < 26, LET[i]? = some (lt i) := by decide +kernel
theorem lt_low (i : Nat) : lowB (lt i) = true := by
  have := lt_at (i % 26) (Nat.mod_lt _ (by decide))
  have e : lt (i % 26) = lt i := by simp [lt]
  rw [e] at this
  exact let_low _ (List.mem_of_getElem? this)
theorem lt_of {c : Nat} (h : c ∈ LET) : ∃ i, i < 26 ∧ lt i = c := by
  obtain ⟨i, hi, rfl⟩ := List.getElem_of_mem h
  have hi : i < 26 := hi
  refine ⟨i, hi, ?_⟩
  have := lt_at i hi
  rw [List.getElem?_eq_getElem (by exact hi)] at this
  injection this with this
  exact this.symm
theorem lt_mod (i : Nat) : lt (i % 26) = lt i := by simp [lt]
theorem cut_m1 (p : List Nat) (c : Nat) : cutT (p ++ [c]) none (some (-1)) = p := by
  have e : HT.sIx (p ++ [c]).length (p ++ [c]).length (some (-1)) = p.length := by
    simp only [HT.sIx, List.length_append, List.length_cons, List.length_nil]
    rw [if_pos (by decide)]
    omega
  have e2 : HT.sIx (p ++ [c]).length 0 none = 0 := rfl
  simp only [cutT, e, e2, List.drop_zero, Nat.sub_zero]
  simp
abbrev wC : Ex := .cmp .inn (.v 5) (.v 3)
abbrev wB : List Sx := [.set false 5 (.bin .add (.sl (.v 5) none (some (.neg (.c (.int 1))))) (.ix (.v 2) (.bin .mod (.bin .add (.me .index (.v 2) [.ix (.v 5) (.neg (.c (.int 1)))]) (.c (.int 1))) (.c (.int 26)))))]
theorem whl_ok (P : Pg) (G : Nat → List D → LH → R D) (ss : List (List Nat)) (p : List Nat) (lp : p.length ≤ 7) (a0 a1 s4 s6 : Option D) (h : LH) : ∀ (m i fuel : Nat), (∃ j, j ≤ m ∧ p ++ [lt (i + j)] ∉ ss) → m < fuel →
    ∃ i', whlK P G wC wB fuel [a0, a1, some (.s (.str LET)), some (.tl (ss.map T.str)), s4, some (.s (.str (p ++ [lt i]))), s6] h = .nx [a0, a1, some (.s (.str LET)), some (.tl (ss.map T.str)), s4, some (.s (.str (p ++ [lt i']))), s6] h ∧ p ++ [lt i'] ∉ ss := by
  intro m
  induction m with
  | zero =>
    intro i fuel hj hf
    obtain ⟨j, j0, hj⟩ := hj
    have : j = 0 := by omega
    subst this
    obtain ⟨f, rfl⟩ : ∃ f, fuel = f + 1 := ⟨fuel - 1, by omega⟩
    refine ⟨i, ?_, hj⟩
    have hc : whlC P G wC [a0, a1, some (.s (.str LET)), some (.tl (ss.map T.str)), s4, some (.s (.str (p ++ [lt i]))), s6] h = .ok false h := by
      have z : ¬ (p ++ [lt i] ∈ ss) := hj
      show ((evE P G wC _ h).k (fun d h1 => truD d h1) fx) = _
      simp only [↓evd, evu, evl, Nat.reduceAdd, Nat.reduceSub, Nat.reduceLeDiff, Nat.reduceEqDiff, Nat.zero_le, Nat.le_refl, Nat.zero_add, Nat.add_zero, Int.reduceEq, Int.reduceLE, Int.reduceLT, Int.reduceAdd, Int.reduceSub, Int.reduceMul, Int.reduceNeg, Int.cast_ofNat_Int, Int.natCast_add, Int.natCast_zero, Int.natCast_one, in_strs, z]
    unfold whlK
    rw [whlL, hc]
  | succ m ih =>
    intro i fuel hj hf
    obtain ⟨f, rfl⟩ : ∃ f, fuel = f + 1 := ⟨fuel - 1, by omega⟩
    by_cases z : p ++ [lt i] ∈ ss
    · have hc : whlC P G wC [a0, a1, some (.s (.str LET)), some (.tl (ss.map T.str)), s4, some (.s (.str (p ++ [lt i]))), s6] h = .ok true h := by
        show ((evE P G wC _ h).k (fun d h1 => truD d h1) fx) = _
        simp only [↓evd, evu, evl, Nat.reduceAdd, Nat.reduceSub, Nat.reduceLeDiff, Nat.reduceEqDiff, Nat.zero_le, Nat.le_refl, Nat.zero_add, Nat.add_zero, Int.reduceEq, Int.reduceLE, Int.reduceLT, Int.reduceAdd, Int.reduceSub, Int.reduceMul, Int.reduceNeg, Int.cast_ofNat_Int, Int.natCast_add, Int.natCast_zero, Int.natCast_one, in_strs, z]
      have hb : evB P G wB [a0, a1, some (.s (.str LET)), some (.tl (ss.map T.str)), s4, some (.s (.str (p ++ [lt i]))), s6] h = .nx [a0, a1, some (.s (.str LET)), some (.tl (ss.map T.str)), s4, some (.s (.str (p ++ [lt (i + 1)]))), s6] h := by
        have z26 : (0 : Int) < 26 := by decide
        have al : ixD (.s (.str (p ++ [lt i]))) (.s (.int (-1))) h = some (.s (.str [lt i])) := by
          show (atT (p ++ [lt i]) (-1)).map _ = _
          rw [show atT (p ++ [lt i]) (-1) = some (lt i) from L2.atI_last p (lt i)]; rfl
        have ix : meD .index (.s (.str LET)) [.s (.str [lt i])] h = some (.s (.int ((i % 26 : Nat) : Int))) := by
          have := lt_idx (i % 26) (Nat.mod_lt _ (by decide))
          rw [lt_mod] at this
          exact this
        have mr : meRecv .index (.s (.str LET)) h = true := rfl
        have e1 : (((i % 26 : Nat) : Int) + 1) % 26 = (((i + 1) % 26 : Nat) : Int) := by omega
        have il : ixD (.s (.str LET)) (.s (.int (((i + 1) % 26 : Nat) : Int))) h = some (.s (.str [lt (i + 1)])) := by
          show (atT LET (((i + 1) % 26 : Nat) : Int)).map _ = _
          have := lt_at ((i + 1) % 26) (Nat.mod_lt _ (by decide))
          rw [lt_mod] at this
          rw [show atT LET (((i + 1) % 26 : Nat) : Int) = some (lt (i + 1)) from L2.atI_nat this]; rfl
        have sz : sizeOk (p.length + [lt (i + 1)].length) = true := decide_eq_true (by simp only [List.length_cons, List.length_nil]; omega)
        simp only [↓evd, evu, evl, Nat.reduceAdd, Nat.reduceSub, Nat.reduceLeDiff, Nat.reduceEqDiff, Nat.zero_le, Nat.le_refl, Nat.zero_add, Nat.add_zero, Int.reduceEq, Int.reduceLE, Int.reduceLT, Int.reduceAdd, Int.reduceSub, Int.reduceMul, Int.reduceNeg, Int.cast_ofNat_Int, Int.natCast_add, Int.natCast_zero, Int.natCast_one, slD, cut_m1, mr, al, ix, z26, if_true, e1, il, b_ss, decide_eq_true (of_decide_eq_true sz)]
      obtain ⟨j, j0, hj⟩ := hj
      have jn : j ≠ 0 := fun e => by subst e; exact hj z
      obtain ⟨i', e, hi⟩ := ih (i + 1) f ⟨j - 1, by omega, by rw [show i + 1 + (j - 1) = i + j by omega]; exact hj⟩ (by omega)
      refine ⟨i', ?_, hi⟩
      unfold whlK at e ⊢
      rw [whlL, hc]
      dsimp only
      rw [hb]
      exact e
    · have hc : whlC P G wC [a0, a1, some (.s (.str LET)), some (.tl (ss.map T.str)), s4, some (.s (.str (p ++ [lt i]))), s6] h = .ok false h := by
        show ((evE P G wC _ h).k (fun d h1 => truD d h1) fx) = _
        simp only [↓evd, evu, evl, Nat.reduceAdd, Nat.reduceSub, Nat.reduceLeDiff, Nat.reduceEqDiff, Nat.zero_le, Nat.le_refl, Nat.zero_add, Nat.add_zero, Int.reduceEq, Int.reduceLE, Int.reduceLT, Int.reduceAdd, Int.reduceSub, Int.reduceMul, Int.reduceNeg, Int.cast_ofNat_Int, Int.natCast_add, Int.natCast_zero, Int.natCast_one, in_strs, z]
      refine ⟨i, ?_, z⟩
      unfold whlK
      rw [whlL, hc]
structure Nms (ss : List (List Nat)) : Prop where
  nd : ss.Nodup
  nm : ∀ w ∈ ss, nmT (.str w) = true
theorem Nms.snoc {ss : List (List Nat)} (t : Nms ss) {w : List Nat} (a : nmT (.str w) = true) (f : w ∉ ss) : Nms (ss ++ [w]) := by
  refine ⟨?_, ?_⟩
  · rw [List.nodup_append]
    refine ⟨t.nd, by simp, ?_⟩
    intro a ha b hb
    rw [List.mem_singleton.mp hb]
    rintro rfl
    exact f ha
  · intro x hx
    rcases List.mem_append.mp hx with hx | hx
    · exact t.nm x hx
    · rw [List.mem_singleton.mp hx]; exact a
/-- the while, from any name -/
theorem whl_nm (P : Pg) (G : Nat → List D → LH → R D) (ss : List (List Nat)) (w : List Nat) (nw : nmT (.str w) = true) (l : ss.length < 26) (a0 a1 s4 s6 : Option D) (h : LH) :
    ∃ w', whlK P G wC wB wF [a0, a1, some (.s (.str LET)), some (.tl (ss.map T.str)), s4, some (.s (.str w)), s6] h = .nx [a0, a1, some (.s (.str LET)), some (.tl (ss.map T.str)), s4, some (.s (.str w')), s6] h ∧ w' ∉ ss ∧ nmT (.str w') = true := by
  have nl := nm_len nw
  obtain ⟨p, c, rfl⟩ : ∃ p c, w = p ++ [c] := by
    rcases List.eq_nil_or_concat w with rfl | ⟨p, c, e⟩
    · simp at nl
    · exact ⟨p, c, by rw [e]; simp⟩
  rw [List.all_append, Bool.and_eq_true] at nl
  have hc : c ∈ LET := by
    have := nl.2.2.2
    simpa [lowB] using this
  obtain ⟨i, hi, rfl⟩ := lt_of hc
  have lp : p.length ≤ 7 := by have := nl.2.1; simp at this; omega
  obtain ⟨c', hc', fc⟩ := free_l p ss l
  obtain ⟨i', hi', rfl⟩ := lt_of hc'
  obtain ⟨k, e, hk⟩ := whl_ok P G ss p lp a0 a1 s4 s6 h 26 i wF ⟨(i' + 26 - i) % 26, by omega, by
    have : lt (i + (i' + 26 - i) % 26) = lt i' := by
      rw [← lt_mod (i + (i' + 26 - i) % 26)]
      rw [show (i + (i' + 26 - i) % 26) % 26 = i' by omega]
    rw [this]; exact fc⟩ (by decide)
  refine ⟨_, e, hk, nm_of ?_ (by simp) (by simp; omega)⟩
  rw [List.all_append, nl.2.2.1]
  simp [lt_low]
end Rm
set_option Elab.async false
set_option linter.all false
set_option autoImplicit false
set_option maxRecDepth 100000
/-! k31: names, rising numbers -/
namespace Rm
open K31
/-- a law whose rolls are drawn so -/
structure FF (P : Pg) : Prop where
  d : FD P
  of : P.df 1004 = some l_law_of
  names : P.df 1005 = some l_law_names
  rising : P.df 1006 = some l_law_rising
  act : P.df 1007 = some l_law_act
  house : P.df 1008 = some l_law_house
  roll : P.df 1009 = some l_law_roll
def ownL : List T := [.str [98, 111, 111, 107], .str [114, 97, 105, 110], .str [112, 97, 121], .str [104, 97, 110, 100, 115], .str [115, 101, 110, 116], .str [116, 101, 97, 109], .str [115, 116, 101, 112, 115], .str [104, 111, 117, 115, 101]]
theorem own_nm : ∀ t ∈ ownL, nmT t = true := by decide +kernel
def NSt (pre : LH) (many : Int) (b j : Nat) (s : Sg) (h : LH) : Prop := ∃ (ss : List (List Nat)) (s4 s5 : Option D), s = [some (.s (.ref pre.length)), some (.s (.int many)), some (.s (.str LET)), some (.tl (ss.map T.str)), s4, s5, none] ∧ ss.length = j ∧ Nms ss ∧ Iv (b + 11 * (8 - j)) pre h
theorem names_ok {P : Pg} (H : FF P) (n b : Nat) (many : Int) (pre h : LH) (m0 : 0 ≤ many) (m1 : many ≤ 8) (i : Iv (b + 88) pre h) :
    (callF P (n + 3) 1005 [.s (.ref pre.length), .s (.int many)] h).W (fun d h' => ∃ ss : List (List Nat), d = .tl (ss.map T.str) ∧ (ss.length : Int) = many ∧ Nms ss ∧ Iv b pre h') fx := by
  refine call_W H.names rfl ?_
  rw [l_law_names]
  simp only [↓evd, evu, evl, Nat.reduceAdd, Nat.reduceSub, Nat.reduceLeDiff, Nat.reduceEqDiff, Nat.zero_le, Nat.le_refl, Nat.zero_add, Nat.add_zero, Int.reduceEq, Int.reduceLE, Int.reduceLT, Int.reduceAdd, Int.reduceSub, Int.reduceMul, Int.reduceNeg, Int.cast_ofNat_Int, Int.natCast_add, Int.natCast_zero, Int.natCast_one, rng_le m0 (show many < 1000 by omega)]
  refine for_atW (fun j s hh => NSt pre many b j s hh) (fun _ _ _ _ => rfl) ⟨[], none, none, rfl, rfl, ⟨List.nodup_nil, (fun _ h => nomatch h)⟩, i⟩ ?_ ?_
  · rintro j x hj _ h' ⟨ss, s4, s5, rfl, ls, nm, ih⟩
    have lj := (List.getElem?_eq_some_iff.mp hj).1
    rw [rng_len] at lj
    have rest : ∀ (w : List Nat) (s4 : Option D) (h : LH), nmT (.str w) = true → Iv (b + 11 * (8 - (j + 1))) pre h →
        (evB P (callF P (n + 2)) [Sx.whl wC wB, Sx.app (.v 3) (.v 5)] [some (.s (.ref pre.length)), some (.s (.int many)), some (.s (.str LET)), some (.tl (ss.map T.str)), s4, some (.s (.str w)), none] h).N (fun s hh => NSt pre many b (j + 1) s hh) fx := by
      intro w s4 h nw ih
      obtain ⟨w', ew, fw, nw'⟩ := whl_nm P (callF P (n + 2)) ss w nw (by omega) (some (.s (.ref pre.length))) (some (.s (.int many))) s4 none h
      simp only [↓evd, evu, evl, Nat.reduceAdd, Nat.reduceSub, Nat.reduceLeDiff, Nat.reduceEqDiff, Nat.zero_le, Nat.le_refl, Nat.zero_add, Nat.add_zero, Int.reduceEq, Int.reduceLE, Int.reduceLT, Int.reduceAdd, Int.reduceSub, Int.reduceMul, Int.reduceNeg, Int.cast_ofNat_Int, Int.natCast_add, Int.natCast_zero, Int.natCast_one, ew, plIs]
      rw [own_app 3 (ss.map T.str) _ _ _ rfl (by rw [List.length_map]; omega)]
      exact N_nx.mpr ⟨ss ++ [w'], _, _, by rw [List.map_append]; rfl, by simp [ls], nm.snoc nw' fw, ih⟩
    rw [forB_k rfl]
    simp only [↓evd, evu, evl, Nat.reduceAdd, Nat.reduceSub, Nat.reduceLeDiff, Nat.reduceEqDiff, Nat.zero_le, Nat.le_refl, Nat.zero_add, Nat.add_zero, Int.reduceEq, Int.reduceLE, Int.reduceLT, Int.reduceAdd, Int.reduceSub, Int.reduceMul, Int.reduceNeg, Int.cast_ofNat_Int, Int.natCast_add, Int.natCast_zero, Int.natCast_one, me_j]
    refine N_kf (draw_ok H.d n (b + 11 * (8 - (j + 1)) + 10) 8 pre h' (ih.less (by omega)) (by decide) (by decide)) ?_
    rintro _ h1 ⟨v, rfl, v0, v1, i1⟩
    simp only [↓evd, evu, evl, Nat.reduceAdd, Nat.reduceSub, Nat.reduceLeDiff, Nat.reduceEqDiff, Nat.zero_le, Nat.le_refl, Nat.zero_add, Nat.add_zero, Int.reduceEq, Int.reduceLE, Int.reduceLT, Int.reduceAdd, Int.reduceSub, Int.reduceMul, Int.reduceNeg, Int.cast_ofNat_Int, Int.natCast_add, Int.natCast_zero, Int.natCast_one, rng_le (show 0 ≤ 1 + v by omega) (show 1 + v < 1000 by omega)]
    refine N_kf (lc_each (I := fun b' h => Iv (b + 11 * (8 - (j + 1)) + 2 + b') pre h) (p := Sgl) 1 (fun _ _ _ => rfl) _ h1 0 (i1.less (by rw [rng_len]; omega)) ?_) ?_
    · intro x hx b' h' ih
      rw [lcB_k rfl]
      simp only [↓evd, evu, evl, Nat.reduceAdd, Nat.reduceSub, Nat.reduceLeDiff, Nat.reduceEqDiff, Nat.zero_le, Nat.le_refl, Nat.zero_add, Nat.add_zero, Int.reduceEq, Int.reduceLE, Int.reduceLT, Int.reduceAdd, Int.reduceSub, Int.reduceMul, Int.reduceNeg, Int.cast_ofNat_Int, Int.natCast_add, Int.natCast_zero, Int.natCast_one]
      refine W_k (draw_ok H.d n _ 26 pre h' ih (by decide) (by decide)) ?_
      rintro _ h3 ⟨v, rfl, v0, v1, i3⟩
      obtain ⟨c, ec, lc⟩ := let_at v0 v1
      simp only [↓evd, evu, evl, Nat.reduceAdd, Nat.reduceSub, Nat.reduceLeDiff, Nat.reduceEqDiff, Nat.zero_le, Nat.le_refl, Nat.zero_add, Nat.add_zero, Int.reduceEq, Int.reduceLE, Int.reduceLT, Int.reduceAdd, Int.reduceSub, Int.reduceMul, Int.reduceNeg, Int.cast_ofNat_Int, Int.natCast_add, Int.natCast_zero, Int.natCast_one, ec]
      exact W_ok.mpr ⟨_, rfl, ⟨c, rfl, lc⟩, i3⟩
    · rintro ts h3 ⟨l, a, ih⟩
      rw [rng_len] at l
      obtain ⟨cs, ej, lj, aj⟩ := join_ok (d := .tl ts) (h := h3) rfl a (by omega)
      simp only [↓evd, evu, evl, Nat.reduceAdd, Nat.reduceSub, Nat.reduceLeDiff, Nat.reduceEqDiff, Nat.zero_le, Nat.le_refl, Nat.zero_add, Nat.add_zero, Int.reduceEq, Int.reduceLE, Int.reduceLT, Int.reduceAdd, Int.reduceSub, Int.reduceMul, Int.reduceNeg, Int.cast_ofNat_Int, Int.natCast_add, Int.natCast_zero, Int.natCast_one, ej]
      refine N_kf (draw_ok H.d n (b + 11 * (8 - (j + 1)) + 1) 9 pre h3 (ih.less (by omega)) (by decide) (by decide)) ?_
      rintro _ h4 ⟨way, rfl, w0, w1, i4⟩
      by_cases z : way = 0
      · simp only [↓evd, evu, evl, Nat.reduceAdd, Nat.reduceSub, Nat.reduceLeDiff, Nat.reduceEqDiff, Nat.zero_le, Nat.le_refl, Nat.zero_add, Nat.add_zero, Int.reduceEq, Int.reduceLE, Int.reduceLT, Int.reduceAdd, Int.reduceSub, Int.reduceMul, Int.reduceNeg, Int.cast_ofNat_Int, Int.natCast_add, Int.natCast_zero, Int.natCast_one, z]
        refine N_kf (draw_ok H.d n (b + 11 * (8 - (j + 1))) 8 pre h4 i4 (by decide) (by decide)) ?_
        rintro _ h5 ⟨u, rfl, u0, u1, i5⟩
        obtain ⟨t, et, mt⟩ := at_mem (xs := ownL) u0 u1
        obtain ⟨w, rfl⟩ := nm_str (own_nm t mt)
        have et' : atT [T.str [98, 111, 111, 107], .str [114, 97, 105, 110], .str [112, 97, 121], .str [104, 97, 110, 100, 115], .str [115, 101, 110, 116], .str [116, 101, 97, 109], .str [115, 116, 101, 112, 115], .str [104, 111, 117, 115, 101]] u = some (.str w) := et
        have r := rest w (some (.s x)) h5 (own_nm _ mt) i5
        simp only [↓evd, evu, evl, Nat.reduceAdd, Nat.reduceSub, Nat.reduceLeDiff, Nat.reduceEqDiff, Nat.zero_le, Nat.le_refl, Nat.zero_add, Nat.add_zero, Int.reduceEq, Int.reduceLE, Int.reduceLT, Int.reduceAdd, Int.reduceSub, Int.reduceMul, Int.reduceNeg, Int.cast_ofNat_Int, Int.natCast_add, Int.natCast_zero, Int.natCast_one] at r
        simp only [↓evd, evu, evl, Nat.reduceAdd, Nat.reduceSub, Nat.reduceLeDiff, Nat.reduceEqDiff, Nat.zero_le, Nat.le_refl, Nat.zero_add, Nat.add_zero, Int.reduceEq, Int.reduceLE, Int.reduceLT, Int.reduceAdd, Int.reduceSub, Int.reduceMul, Int.reduceNeg, Int.cast_ofNat_Int, Int.natCast_add, Int.natCast_zero, Int.natCast_one, et']
        exact r
      · have r := rest cs (some (.s x)) h4 (nm_of aj (by omega) (by omega)) (i4.less (by omega))
        simp only [↓evd, evu, evl, Nat.reduceAdd, Nat.reduceSub, Nat.reduceLeDiff, Nat.reduceEqDiff, Nat.zero_le, Nat.le_refl, Nat.zero_add, Nat.add_zero, Int.reduceEq, Int.reduceLE, Int.reduceLT, Int.reduceAdd, Int.reduceSub, Int.reduceMul, Int.reduceNeg, Int.cast_ofNat_Int, Int.natCast_add, Int.natCast_zero, Int.natCast_one] at r
        simp only [↓evd, evu, evl, Nat.reduceAdd, Nat.reduceSub, Nat.reduceLeDiff, Nat.reduceEqDiff, Nat.zero_le, Nat.le_refl, Nat.zero_add, Nat.add_zero, Int.reduceEq, Int.reduceLE, Int.reduceLT, Int.reduceAdd, Int.reduceSub, Int.reduceMul, Int.reduceNeg, Int.cast_ofNat_Int, Int.natCast_add, Int.natCast_zero, Int.natCast_one, z]
        exact r
  · rintro _ h' ⟨ss, s4, s5, rfl, ls, nm, ih⟩
    rw [rng_len] at ls
    simp only [↓evd, evu, evl, Nat.reduceAdd, Nat.reduceSub, Nat.reduceLeDiff, Nat.reduceEqDiff, Nat.zero_le, Nat.le_refl, Nat.zero_add, Nat.add_zero, Int.reduceEq, Int.reduceLE, Int.reduceLT, Int.reduceAdd, Int.reduceSub, Int.reduceMul, Int.reduceNeg, Int.cast_ofNat_Int, Int.natCast_add, Int.natCast_zero, Int.natCast_one]
    exact W_ok.mpr ⟨ss, rfl, by omega, nm, ih.less (by omega)⟩
/-! ### rising numbers -/
theorem iu_mem (z x : Int) : ∀ l : List Int, z ∈ insU x l ↔ z = x ∨ z ∈ l
  | [] => by simp [insU]
  | y :: l => by
    unfold insU
    split
    · simp
    · split
      · rename_i e; subst e; simp
      · simp only [List.mem_cons, iu_mem z x l]
        constructor
        · rintro (h | h | h) <;> simp [h]
        · rintro (h | h | h) <;> simp [h]
theorem su_mem (z : Int) : ∀ l : List Int, z ∈ srtU l ↔ z ∈ l
  | [] => by simp [srtU]
  | x :: l => by simp only [srtU, iu_mem, su_mem z l, List.mem_cons]
theorem iu_lt (x : Int) : ∀ l : List Int, l.Pairwise (· < ·) → (insU x l).Pairwise (· < ·)
  | [], _ => by simp [insU]
  | y :: l, h => by
    have h' := List.pairwise_cons.mp h
    unfold insU
    split
    · rename_i q
      refine List.pairwise_cons.mpr ⟨fun z hz => ?_, h⟩
      rcases List.mem_cons.mp hz with rfl | hz
      · exact q
      · have := h'.1 z hz; omega
    · split
      · exact h
      · rename_i q1 q2
        refine List.pairwise_cons.mpr ⟨fun z hz => ?_, iu_lt x l h'.2⟩
        rcases (iu_mem z x l).mp hz with rfl | hz
        · omega
        · exact h'.1 z hz
theorem su_lt : ∀ l : List Int, (srtU l).Pairwise (· < ·)
  | [] => List.Pairwise.nil
  | x :: l => iu_lt x _ (su_lt l)
theorem iu_len (x : Int) : ∀ l : List Int, (insU x l).length ≤ l.length + 1
  | [] => by simp [insU]
  | y :: l => by
    unfold insU
    split
    · simp
    · split
      · simp
      · have := iu_len x l; simp; omega
theorem su_len : ∀ l : List Int, (srtU l).length ≤ l.length
  | [] => by simp [srtU]
  | x :: l => by
    have := iu_len x (srtU l)
    have := su_len l
    simp only [srtU, List.length_cons]; omega
theorem ints_id (is : List Int) : intsOf (is.map T.int) = some is := by
  induction is with
  | nil => rfl
  | cons k ks ih => simp only [List.map_cons, intsOf]; rw [ih]; rfl
theorem ss_tl (is : List Int) (h : LH) (l : is.length < 64) : spD .sset [.tl (is.map T.int)] h = some (.tl ((srtU is).map T.int)) := by
  show ssD (.tl (is.map T.int)) h = _
  simp only [ssD, lstOf, ints_id, decide_eq_true l, if_true]
theorem lrising_ok {P : Pg} (H : FF P) (n b : Nat) (many most : Int) (pre h : LH) (m0 : 0 ≤ many) (m1 : many ≤ 7) (t0 : 0 < most) (t1 : most ≤ 1000) (i : Iv (b + 8) pre h) :
    (callF P (n + 3) 1006 [.s (.ref pre.length), .s (.int many), .s (.int most)] h).W (fun d h' => ∃ is : List Int, d = .tl (is.map T.int) ∧ (is.length : Int) ≤ many ∧ (∀ x ∈ is, 0 ≤ x ∧ x < most) ∧ Iv b pre h') fx := by
  refine call_W H.rising rfl ?_
  rw [l_law_rising]
  simp only [↓evd, evu, evl, Nat.reduceAdd, Nat.reduceSub, Nat.reduceLeDiff, Nat.reduceEqDiff, Nat.zero_le, Nat.le_refl, Nat.zero_add, Nat.add_zero, Int.reduceEq, Int.reduceLE, Int.reduceLT, Int.reduceAdd, Int.reduceSub, Int.reduceMul, Int.reduceNeg, Int.cast_ofNat_Int, Int.natCast_add, Int.natCast_zero, Int.natCast_one]
  refine W_k (draw_ok H.d n (b + 7) (many + 1) pre h i (by omega) (by omega)) ?_
  rintro _ h1 ⟨v, rfl, v0, v1, i1⟩
  simp only [↓evd, evu, evl, Nat.reduceAdd, Nat.reduceSub, Nat.reduceLeDiff, Nat.reduceEqDiff, Nat.zero_le, Nat.le_refl, Nat.zero_add, Nat.add_zero, Int.reduceEq, Int.reduceLE, Int.reduceLT, Int.reduceAdd, Int.reduceSub, Int.reduceMul, Int.reduceNeg, Int.cast_ofNat_Int, Int.natCast_add, Int.natCast_zero, Int.natCast_one, rng_le v0 (show v < 1000 by omega), lcK]
  refine W_k (lc_rel (I := fun b' h => Iv (b + b') pre h) (r := fun _ t => ∃ d : Int, t = .int d ∧ (0 ≤ d ∧ d < most)) 1 (fun _ _ _ => rfl) _ h1 0 (i1.less (by rw [rng_len]; omega)) ?_) ?_
  · intro x hx b' h' ih
    rw [lcB_k rfl]
    simp only [↓evd, evu, evl, Nat.reduceAdd, Nat.reduceSub, Nat.reduceLeDiff, Nat.reduceEqDiff, Nat.zero_le, Nat.le_refl, Nat.zero_add, Nat.add_zero, Int.reduceEq, Int.reduceLE, Int.reduceLT, Int.reduceAdd, Int.reduceSub, Int.reduceMul, Int.reduceNeg, Int.cast_ofNat_Int, Int.natCast_add, Int.natCast_zero, Int.natCast_one]
    refine W_k (draw_ok H.d n (b + b') most pre h' ih t0 (by omega)) ?_
    rintro _ h2 ⟨u, rfl, u0, u1, i2⟩
    simp only [↓evd, evu, evl, Nat.reduceAdd, Nat.reduceSub, Nat.reduceLeDiff, Nat.reduceEqDiff, Nat.zero_le, Nat.le_refl, Nat.zero_add, Nat.add_zero, Int.reduceEq, Int.reduceLE, Int.reduceLT, Int.reduceAdd, Int.reduceSub, Int.reduceMul, Int.reduceNeg, Int.cast_ofNat_Int, Int.natCast_add, Int.natCast_zero, Int.natCast_one]
    exact W_ok.mpr ⟨_, rfl, ⟨u, rfl, u0, u1⟩, i2⟩
  · rintro ts h2 ⟨q, i2⟩
    obtain ⟨ds, rfl, ld, bd⟩ := rel_map (f := T.int) (P := fun d => 0 ≤ d ∧ d < most) q (fun _ _ h => h)
    rw [rng_len] at ld
    have sl := su_len ds
    simp only [↓evd, evu, evl, Nat.reduceAdd, Nat.reduceSub, Nat.reduceLeDiff, Nat.reduceEqDiff, Nat.zero_le, Nat.le_refl, Nat.zero_add, Nat.add_zero, Int.reduceEq, Int.reduceLE, Int.reduceLT, Int.reduceAdd, Int.reduceSub, Int.reduceMul, Int.reduceNeg, Int.cast_ofNat_Int, Int.natCast_add, Int.natCast_zero, Int.natCast_one, ss_tl ds h2 (by omega)]
    exact W_ok.mpr ⟨srtU ds, rfl, by omega, fun x hx => bd x ((su_mem x ds).mp hx), i2⟩
end Rm
set_option Elab.async false
set_option linter.all false
set_option autoImplicit false
set_option maxRecDepth 100000
/-! k31: an act, a house -/
namespace Rm
open K31
def ptR (bound : Int) (x t : T) : Prop := ∃ p : Int × Int, t = ptT p ∧ x = .int p.1 ∧ 0 ≤ p.2 ∧ p.2 ≤ bound
theorem rel_pt {bound : Int} : ∀ {is : List Int} {ts : List T}, Rel2 (ptR bound) (is.map T.int) ts → ∃ ps : List (Int × Int), ts = ps.map ptT ∧ ps.map Prod.fst = is ∧ ∀ p ∈ ps, 0 ≤ p.2 ∧ p.2 ≤ bound
  | [], [], _ => ⟨[], rfl, rfl, (fun _ h => nomatch h)⟩
  | i :: is, t :: ts, h => by
    obtain ⟨p, rfl, e, b0, b1⟩ := h.1
    obtain ⟨ps, rfl, e2, bd⟩ := rel_pt (is := is) h.2
    injection e with e
    refine ⟨p :: ps, rfl, by rw [List.map_cons, e2, ← e], fun q hq => ?_⟩
    rcases List.mem_cons.mp hq with rfl | hq
    · exact ⟨b0, b1⟩
    · exact bd q hq
  | [], _ :: _, h => h.elim
  | _ :: _, [], h => h.elim
theorem tb_of {most bound : Int} {is : List Int} {ps : List (Int × Int)} (e : ps.map Prod.fst = is) (lt : is.Pairwise (· < ·)) (z : (0 : Int) ∈ is) (bd : ∀ x ∈ is, 0 ≤ x ∧ x ≤ most) (b2 : ∀ p ∈ ps, 0 ≤ p.2 ∧ p.2 ≤ bound) : TbOk most bound ps := by
  obtain ⟨r, ie⟩ := srt_head lt z (fun d hd => (bd d hd).1)
  subst e
  refine ⟨by rwa [List.pairwise_map] at lt, ?_, fun p hp => ?_⟩
  · cases ps with
    | nil => cases ie
    | cons p r => injection ie with e1 e2; exact ⟨p.2, r, by rw [← e1]⟩
  · have := bd p.1 (List.mem_map.mpr ⟨p, hp, rfl⟩)
    exact ⟨this.1, this.2, b2 p hp⟩
/-- the days or lands of a table -/
structure ROk (most : Int) (m : Nat) (is : List Int) : Prop where
  lt : is.Pairwise (· < ·)
  z : (0 : Int) ∈ is
  bd : ∀ x ∈ is, 0 ≤ x ∧ x ≤ most
  l : is.length ≤ m
theorem r_of {most : Int} {m : Nat} {ds : List Int} (l : ds.length ≤ m) (b : ∀ x ∈ ds, 0 ≤ x ∧ x < most + 1) (m0 : 0 ≤ most) : ROk most (m + 1) (srtU (0 :: ds)) := by
  refine ⟨su_lt _, (su_mem 0 _).mpr (List.mem_cons_self ..), fun x hx => ?_, Nat.le_trans (su_len _) (by simp; omega)⟩
  rcases List.mem_cons.mp ((su_mem x _).mp hx) with rfl | hx
  · exact ⟨Int.le_refl _, m0⟩
  · have := b x hx; omega
theorem lact_ok {P : Pg} (H : FF P) (n b : Nat) (pre h : LH) (i : Iv (b + 30) pre h) : (callF P (n + 4) 1007 [.s (.ref pre.length)] h).W (fun d h' => ∃ fs, d = .s (.tup fs) ∧ ActOk fs ∧ Iv b pre h') fx := by
  refine call_W H.act rfl ?_
  rw [l_law_act]
  simp only [↓evd, evu, evl, Nat.reduceAdd, Nat.reduceSub, Nat.reduceLeDiff, Nat.reduceEqDiff, Nat.zero_le, Nat.le_refl, Nat.zero_add, Nat.add_zero, Int.reduceEq, Int.reduceLE, Int.reduceLT, Int.reduceAdd, Int.reduceSub, Int.reduceMul, Int.reduceNeg, Int.cast_ofNat_Int, Int.natCast_add, Int.natCast_zero, Int.natCast_one]
  refine W_k (lrising_ok H n (b + 22) 5 1000 pre h (by decide) (by decide) (by decide) (by decide) i) ?_
  rintro _ h1 ⟨ds, rfl, ld, bd, i1⟩
  have al : binD .add (.tl [T.int 0]) (.tl (ds.map T.int)) h1 = some (.tl ((0 :: ds).map T.int)) := by
    have sz : sizeOk ([T.int 0].length + (ds.map T.int).length) = true := decide_eq_true (by simp only [List.length_map, List.length_cons, List.length_nil]; omega)
    show (if _ then _ else _) = _
    rw [if_pos sz]; rfl
  have ro := r_of (most := 999) (m := 5) (by omega) bd (by decide)
  simp only [↓evd, evu, evl, Nat.reduceAdd, Nat.reduceSub, Nat.reduceLeDiff, Nat.reduceEqDiff, Nat.zero_le, Nat.le_refl, Nat.zero_add, Nat.add_zero, Int.reduceEq, Int.reduceLE, Int.reduceLT, Int.reduceAdd, Int.reduceSub, Int.reduceMul, Int.reduceNeg, Int.cast_ofNat_Int, Int.natCast_add, Int.natCast_zero, Int.natCast_one, al, ss_tl (0 :: ds) h1 (by simp; omega), lcK]
  generalize srtU (0 :: ds) = is at ro
  have rl := ro.l
  refine W_k (lc_rel (I := fun b' h => Iv (b + 16 + b') pre h) (r := ptR 9) 1 (fun _ _ _ => rfl) _ h1 0 (i1.less (by rw [List.length_map]; omega)) ?_) ?_
  · intro x hx b' h' ih
    obtain ⟨k, hk, rfl⟩ := List.mem_map.mp hx
    rw [lcB_k rfl]
    simp only [↓evd, evu, evl, Nat.reduceAdd, Nat.reduceSub, Nat.reduceLeDiff, Nat.reduceEqDiff, Nat.zero_le, Nat.le_refl, Nat.zero_add, Nat.add_zero, Int.reduceEq, Int.reduceLE, Int.reduceLT, Int.reduceAdd, Int.reduceSub, Int.reduceMul, Int.reduceNeg, Int.cast_ofNat_Int, Int.natCast_add, Int.natCast_zero, Int.natCast_one]
    refine W_k (draw_ok H.d (n + 1) (b + 16 + b') 10 pre h' ih (by decide) (by decide)) ?_
    rintro _ h2 ⟨u, rfl, u0, u1, i2⟩
    simp only [↓evd, evu, evl, Nat.reduceAdd, Nat.reduceSub, Nat.reduceLeDiff, Nat.reduceEqDiff, Nat.zero_le, Nat.le_refl, Nat.zero_add, Nat.add_zero, Int.reduceEq, Int.reduceLE, Int.reduceLT, Int.reduceAdd, Int.reduceSub, Int.reduceMul, Int.reduceNeg, Int.cast_ofNat_Int, Int.natCast_add, Int.natCast_zero, Int.natCast_one]
    exact W_ok.mpr ⟨_, rfl, ⟨(k, u), rfl, rfl, u0, by show u ≤ 9; omega⟩, i2⟩
  · rintro ts h2 ⟨q, i2⟩
    obtain ⟨qs, rfl, eq, bq⟩ := rel_pt q
    have tb := tb_of eq ro.lt ro.z ro.bd bq
    have lq : (qs.length : Int) ≤ 6 := by
      have := congrArg List.length eq
      rw [List.length_map] at this
      omega
    simp only [↓evd, evu, evl, Nat.reduceAdd, Nat.reduceSub, Nat.reduceLeDiff, Nat.reduceEqDiff, Nat.zero_le, Nat.le_refl, Nat.zero_add, Nat.add_zero, Int.reduceEq, Int.reduceLE, Int.reduceLT, Int.reduceAdd, Int.reduceSub, Int.reduceMul, Int.reduceNeg, Int.cast_ofNat_Int, Int.natCast_add, Int.natCast_zero, Int.natCast_one]
    refine W_k (draw_ok H.d (n + 1) (b + 15) 2 pre h2 i2 (by decide) (by decide)) ?_
    rintro _ h3 ⟨v, rfl, v0, v1, i3⟩
    obtain ⟨t, et, mt⟩ := at_mem (xs := [T.int 1000, T.int 300]) (v := v) v0 v1
    have et' : ∃ D : Int, t = .int D ∧ 0 < D ∧ D ≤ 1000 := by
      simp only [List.mem_cons, List.not_mem_nil, or_false] at mt
      rcases mt with rfl | rfl <;> exact ⟨_, rfl, by decide, by decide⟩
    obtain ⟨D, rfl, D0, D1⟩ := et'
    simp only [↓evd, evu, evl, Nat.reduceAdd, Nat.reduceSub, Nat.reduceLeDiff, Nat.reduceEqDiff, Nat.zero_le, Nat.le_refl, Nat.zero_add, Nat.add_zero, Int.reduceEq, Int.reduceLE, Int.reduceLT, Int.reduceAdd, Int.reduceSub, Int.reduceMul, Int.reduceNeg, Int.cast_ofNat_Int, Int.natCast_add, Int.natCast_zero, Int.natCast_one, et]
    refine W_k (draw_ok H.d (n + 1) (b + 14) D pre h3 i3 D0 (by omega)) ?_
    rintro _ h4 ⟨x, rfl, x0, x1, i4⟩
    simp only [↓evd, evu, evl, Nat.reduceAdd, Nat.reduceSub, Nat.reduceLeDiff, Nat.reduceEqDiff, Nat.zero_le, Nat.le_refl, Nat.zero_add, Nat.add_zero, Int.reduceEq, Int.reduceLE, Int.reduceLT, Int.reduceAdd, Int.reduceSub, Int.reduceMul, Int.reduceNeg, Int.cast_ofNat_Int, Int.natCast_add, Int.natCast_zero, Int.natCast_one]
    refine W_k (draw_ok H.d (n + 1) (b + 13) 6 pre h4 i4 (by decide) (by decide)) ?_
    rintro _ h5 ⟨y, rfl, y0, y1, i5⟩
    simp only [↓evd, evu, evl, Nat.reduceAdd, Nat.reduceSub, Nat.reduceLeDiff, Nat.reduceEqDiff, Nat.zero_le, Nat.le_refl, Nat.zero_add, Nat.add_zero, Int.reduceEq, Int.reduceLE, Int.reduceLT, Int.reduceAdd, Int.reduceSub, Int.reduceMul, Int.reduceNeg, Int.cast_ofNat_Int, Int.natCast_add, Int.natCast_zero, Int.natCast_one, lcK]
    refine W_k (lc_rel (I := fun b' h => Iv (b + 1 + b') pre h) (r := fun x t => ∃ m v : Int, x = .int m ∧ t = .int v ∧ 0 ≤ v ∧ v < m) 1 (fun _ _ _ => rfl) _ h5 0 (i5.less (by simp only [List.length_cons, List.length_nil]; omega)) ?_) ?_
    · intro t ht b' h' ih
      have et : ∃ m : Int, t = .int m ∧ 0 < m ∧ m ≤ 100 := by
        simp only [List.mem_cons, List.not_mem_nil, or_false] at ht
        rcases ht with rfl | rfl | rfl | rfl <;> exact ⟨_, rfl, by decide, by decide⟩
      obtain ⟨m, rfl, m0, m1⟩ := et
      rw [lcB_k rfl]
      simp only [↓evd, evu, evl, Nat.reduceAdd, Nat.reduceSub, Nat.reduceLeDiff, Nat.reduceEqDiff, Nat.zero_le, Nat.le_refl, Nat.zero_add, Nat.add_zero, Int.reduceEq, Int.reduceLE, Int.reduceLT, Int.reduceAdd, Int.reduceSub, Int.reduceMul, Int.reduceNeg, Int.cast_ofNat_Int, Int.natCast_add, Int.natCast_zero, Int.natCast_one]
      refine W_k (draw_ok H.d (n + 1) (b + 1 + b') m pre h' ih m0 (by omega)) ?_
      rintro _ h6 ⟨u, rfl, u0, u1, i6⟩
      simp only [↓evd, evu, evl, Nat.reduceAdd, Nat.reduceSub, Nat.reduceLeDiff, Nat.reduceEqDiff, Nat.zero_le, Nat.le_refl, Nat.zero_add, Nat.add_zero, Int.reduceEq, Int.reduceLE, Int.reduceLT, Int.reduceAdd, Int.reduceSub, Int.reduceMul, Int.reduceNeg, Int.cast_ofNat_Int, Int.natCast_add, Int.natCast_zero, Int.natCast_one]
      exact W_ok.mpr ⟨_, rfl, ⟨m, u, rfl, rfl, u0, u1⟩, i6⟩
    · rintro us h6 ⟨qu, i6⟩
      have four : ∃ r0 r1 r2 r3 : Int, us = [.int r0, .int r1, .int r2, .int r3] ∧ (0 ≤ r0 ∧ r0 < 100) ∧ (0 ≤ r1 ∧ r1 < 100) ∧ (0 ≤ r2 ∧ r2 < 41) ∧ (0 ≤ r3 ∧ r3 < 41) := by
        match us, qu with
        | [], q => exact q.elim
        | [_], q => exact q.2.elim
        | [_, _], q => exact q.2.2.elim
        | [_, _, _], q => exact q.2.2.2.elim
        | _ :: _ :: _ :: _ :: _ :: _, q => exact q.2.2.2.2.elim
        | [a, b, c, d], q =>
          obtain ⟨⟨m0, v0, e0, rfl, p0, p0'⟩, ⟨m1, v1, e1, rfl, p1, p1'⟩, ⟨m2, v2, e2, rfl, p2, p2'⟩, ⟨m3, v3, e3, rfl, p3, p3'⟩, _⟩ := q
          injection e0 with e0; injection e1 with e1; injection e2 with e2; injection e3 with e3
          subst e0 e1 e2 e3
          exact ⟨v0, v1, v2, v3, rfl, ⟨p0, p0'⟩, ⟨p1, p1'⟩, ⟨p2, p2'⟩, ⟨p3, p3'⟩⟩
      obtain ⟨r0, r1, r2, r3, rfl, k0, k1, k2, k3⟩ := four
      have b1 : biD .tuple [.vw (qs.map ptT)] h6 = some (.s (tbT qs)) := rfl
      have b2 : biD .tuple [.vw [T.int r0, .int r1, .int r2, .int r3]] h6 = some (.s (.tup [.int r0, .int r1, .int r2, .int r3])) := rfl
      have ad : binD .add (.s (.tup [tbT qs, .tup [.int x, .int (1 + y)]])) (.s (.tup [.int r0, .int r1, .int r2, .int r3])) h6 = some (.s (.tup [tbT qs, .tup [.int x, .int (1 + y)], .int r0, .int r1, .int r2, .int r3])) := rfl
      simp only [↓evd, evu, evl, Nat.reduceAdd, Nat.reduceSub, Nat.reduceLeDiff, Nat.reduceEqDiff, Nat.zero_le, Nat.le_refl, Nat.zero_add, Nat.add_zero, Int.reduceEq, Int.reduceLE, Int.reduceLT, Int.reduceAdd, Int.reduceSub, Int.reduceMul, Int.reduceNeg, Int.cast_ofNat_Int, Int.natCast_add, Int.natCast_zero, Int.natCast_one, b1, b2, ad]
      refine W_k (draw_ok H.d (n + 1) b 9 pre h6 (i6.less (by omega)) (by decide) (by decide)) ?_
      rintro _ h7 ⟨p, rfl, p0, p1, i7⟩
      have ad2 : binD .add (.s (.tup [tbT qs, .tup [.int x, .int (1 + y)], .int r0, .int r1, .int r2, .int r3])) (.s (.tup [.int (1 + p)])) h7 = some (.s (.tup [tbT qs, .tup [.int x, .int (1 + y)], .int r0, .int r1, .int r2, .int r3, .int (1 + p)])) := rfl
      simp only [↓evd, evu, evl, Nat.reduceAdd, Nat.reduceSub, Nat.reduceLeDiff, Nat.reduceEqDiff, Nat.zero_le, Nat.le_refl, Nat.zero_add, Nat.add_zero, Int.reduceEq, Int.reduceLE, Int.reduceLT, Int.reduceAdd, Int.reduceSub, Int.reduceMul, Int.reduceNeg, Int.cast_ofNat_Int, Int.natCast_add, Int.natCast_zero, Int.natCast_one, ad2]
      refine W_ok.mpr ⟨_, rfl, ⟨rfl, ?_⟩, i7⟩
      intro j t hj
      match j, hj with
      | 0, hj => cases hj; exact TbOk.tab tb lq
      | 1, hj => cases hj; simp [fieldB, teamB, am_int x0 (show x ≤ 999 by omega), am_int (show 1 ≤ 1 + y by omega) (show 1 + y ≤ 6 by omega)]
      | 2, hj => cases hj; simp [fieldB, am_int k0.1 (show r0 ≤ 99 by omega)]
      | 3, hj => cases hj; simp [fieldB, am_int k1.1 (show r1 ≤ 99 by omega)]
      | 4, hj => cases hj; simp [fieldB, am_int k2.1 (show r2 ≤ 40 by omega)]
      | 5, hj => cases hj; simp [fieldB, am_int k3.1 (show r3 ≤ 40 by omega)]
      | 6, hj => cases hj; simp [fieldB, am_int (show 1 ≤ 1 + p by omega) (show 1 + p ≤ 9 by omega)]
      | j + 7, hj => simp at hj
theorem lhouse_ok {P : Pg} (H : FF P) (n b : Nat) (far : Int) (w : List Nat) (pre h : LH) (nw : nmT (.str w) = true) (f0 : 0 < far) (f1 : far ≤ 100) (i : Iv (b + 20) pre h) :
    (callF P (n + 4) 1008 [.s (.ref pre.length), .s (.str w), .s (.int far)] h).W (fun d h' => ∃ r, d = .s (.tup (.str w :: r)) ∧ houseB (.tup (.str w :: r)) = true ∧ Iv b pre h') fx := by
  refine call_W H.house rfl ?_
  rw [l_law_house]
  simp only [↓evd, evu, evl, Nat.reduceAdd, Nat.reduceSub, Nat.reduceLeDiff, Nat.reduceEqDiff, Nat.zero_le, Nat.le_refl, Nat.zero_add, Nat.add_zero, Int.reduceEq, Int.reduceLE, Int.reduceLT, Int.reduceAdd, Int.reduceSub, Int.reduceMul, Int.reduceNeg, Int.cast_ofNat_Int, Int.natCast_add, Int.natCast_zero, Int.natCast_one]
  refine W_k (lrising_ok H n (b + 12) 7 240 pre h (by decide) (by decide) (by decide) (by decide) i) ?_
  rintro _ h1 ⟨ds, rfl, ld, bd, i1⟩
  have al : binD .add (.tl [T.int 0]) (.tl (ds.map T.int)) h1 = some (.tl ((0 :: ds).map T.int)) := by
    have sz : sizeOk ([T.int 0].length + (ds.map T.int).length) = true := decide_eq_true (by simp only [List.length_map, List.length_cons, List.length_nil]; omega)
    show (if _ then _ else _) = _
    rw [if_pos sz]; rfl
  have ro := r_of (most := 239) (m := 7) (by omega) bd (by decide)
  simp only [↓evd, evu, evl, Nat.reduceAdd, Nat.reduceSub, Nat.reduceLeDiff, Nat.reduceEqDiff, Nat.zero_le, Nat.le_refl, Nat.zero_add, Nat.add_zero, Int.reduceEq, Int.reduceLE, Int.reduceLT, Int.reduceAdd, Int.reduceSub, Int.reduceMul, Int.reduceNeg, Int.cast_ofNat_Int, Int.natCast_add, Int.natCast_zero, Int.natCast_one, al, ss_tl (0 :: ds) h1 (by simp; omega), lcK]
  generalize srtU (0 :: ds) = is at ro
  have rl := ro.l
  refine W_k (lc_rel (I := fun b' h => Iv (b + 2 + b') pre h) (r := ptR 999) 1 (fun _ _ _ => rfl) _ h1 0 (i1.less (by rw [List.length_map]; omega)) ?_) ?_
  · intro x hx b' h' ih
    obtain ⟨k, hk, rfl⟩ := List.mem_map.mp hx
    rw [lcB_k rfl]
    simp only [↓evd, evu, evl, Nat.reduceAdd, Nat.reduceSub, Nat.reduceLeDiff, Nat.reduceEqDiff, Nat.zero_le, Nat.le_refl, Nat.zero_add, Nat.add_zero, Int.reduceEq, Int.reduceLE, Int.reduceLT, Int.reduceAdd, Int.reduceSub, Int.reduceMul, Int.reduceNeg, Int.cast_ofNat_Int, Int.natCast_add, Int.natCast_zero, Int.natCast_one]
    refine W_k (draw_ok H.d (n + 1) (b + 2 + b') 1000 pre h' ih (by decide) (by decide)) ?_
    rintro _ h2 ⟨u, rfl, u0, u1, i2⟩
    simp only [↓evd, evu, evl, Nat.reduceAdd, Nat.reduceSub, Nat.reduceLeDiff, Nat.reduceEqDiff, Nat.zero_le, Nat.le_refl, Nat.zero_add, Nat.add_zero, Int.reduceEq, Int.reduceLE, Int.reduceLT, Int.reduceAdd, Int.reduceSub, Int.reduceMul, Int.reduceNeg, Int.cast_ofNat_Int, Int.natCast_add, Int.natCast_zero, Int.natCast_one]
    exact W_ok.mpr ⟨_, rfl, ⟨(k, u), rfl, rfl, u0, by show u ≤ 999; omega⟩, i2⟩
  · rintro ts h2 ⟨q, i2⟩
    obtain ⟨qs, rfl, eq, bq⟩ := rel_pt q
    have tb := tb_of eq ro.lt ro.z ro.bd bq
    have lq : (qs.length : Int) ≤ 8 := by
      have := congrArg List.length eq
      rw [List.length_map] at this
      omega
    simp only [↓evd, evu, evl, Nat.reduceAdd, Nat.reduceSub, Nat.reduceLeDiff, Nat.reduceEqDiff, Nat.zero_le, Nat.le_refl, Nat.zero_add, Nat.add_zero, Int.reduceEq, Int.reduceLE, Int.reduceLT, Int.reduceAdd, Int.reduceSub, Int.reduceMul, Int.reduceNeg, Int.cast_ofNat_Int, Int.natCast_add, Int.natCast_zero, Int.natCast_one]
    refine W_k (draw_ok H.d (n + 1) (b + 1) far pre h2 i2 f0 (by omega)) ?_
    rintro _ h3 ⟨u, rfl, u0, u1, i3⟩
    simp only [↓evd, evu, evl, Nat.reduceAdd, Nat.reduceSub, Nat.reduceLeDiff, Nat.reduceEqDiff, Nat.zero_le, Nat.le_refl, Nat.zero_add, Nat.add_zero, Int.reduceEq, Int.reduceLE, Int.reduceLT, Int.reduceAdd, Int.reduceSub, Int.reduceMul, Int.reduceNeg, Int.cast_ofNat_Int, Int.natCast_add, Int.natCast_zero, Int.natCast_one]
    refine W_k (draw_ok H.d (n + 1) b 10 pre h3 i3 (by decide) (by decide)) ?_
    rintro _ h4 ⟨v, rfl, v0, v1, i4⟩
    have bt : biD .tuple [.vw (qs.map ptT)] h4 = some (.s (tbT qs)) := rfl
    simp only [↓evd, evu, evl, Nat.reduceAdd, Nat.reduceSub, Nat.reduceLeDiff, Nat.reduceEqDiff, Nat.zero_le, Nat.le_refl, Nat.zero_add, Nat.add_zero, Int.reduceEq, Int.reduceLE, Int.reduceLT, Int.reduceAdd, Int.reduceSub, Int.reduceMul, Int.reduceNeg, Int.cast_ofNat_Int, Int.natCast_add, Int.natCast_zero, Int.natCast_one, bt]
    refine W_ok.mpr ⟨_, rfl, ?_, i4⟩
    simp only [houseB, nw, am_int u0 (show u ≤ 99 by omega), am_int v0 (show v ≤ 9 by omega), landsB, tb.tab lq, Bool.and_self]
end Rm
set_option Elab.async false
set_option linter.all false
set_option autoImplicit false
set_option maxRecDepth 100000
/-! k31: a roll -/
namespace Rm
open K31
/-- things called unlike -/
structure Ths (p : T → Bool) (xs : List T) (ns : List (List Nat)) : Prop where
  all : xs.all p = true
  nm : xs.map fstT = ns.map T.str
theorem Ths.snoc {p : T → Bool} {xs : List T} {ns : List (List Nat)} (t : Ths p xs ns) {w : List Nat} {r : List T} (a : p (.tup (.str w :: r)) = true) : Ths p (xs ++ [.tup (.str w :: r)]) (ns ++ [w]) :=
  ⟨by rw [List.all_append, t.all]; simp [a], by simp [t.nm, fstT]⟩
theorem lc_sub {f : T → LH → R (Option T)} {gd : LH → Bool} {I : Nat → LH → Prop} (c : Nat) (hg : ∀ k h, I k h → gd h = true) (xs : List T) (h : LH) (b : Nat) (i : I (b + c * xs.length) h)
    (st : ∀ x ∈ xs, ∀ b h, I (b + c) h → (f x h).W (fun o h' => (o = some x ∨ o = none) ∧ I b h') fx) : (lcL f gd xs [] h).W (fun ts h' => ts.Sublist xs ∧ I b h') fx := by
  suffices H : ∀ (xs acc : List T) (h : LH), I (b + c * xs.length) h → (∀ x ∈ xs, ∀ b h, I (b + c) h → (f x h).W (fun o h' => (o = some x ∨ o = none) ∧ I b h') fx) →
      (lcL f gd xs acc h).W (fun ts h' => (∃ ys, ts = acc ++ ys ∧ ys.Sublist xs) ∧ I b h') fx by
    refine W_mono (H xs [] h i st) fun a h q => ⟨?_, q.2⟩
    obtain ⟨ys, e, q⟩ := q.1
    rw [e]; exact q
  intro xs
  induction xs with
  | nil =>
    intro acc h i st
    unfold lcL; rw [if_pos (hg _ _ i)]
    exact W_ok.mpr ⟨⟨[], by simp, List.Sublist.refl _⟩, i⟩
  | cons x xs ih =>
    intro acc h i st
    unfold lcL; rw [if_pos (hg _ _ i)]
    have i0 : I ((b + c * xs.length) + c) h := by
      have e : b + c * (x :: xs).length = (b + c * xs.length) + c := by rw [List.length_cons, Nat.mul_succ]; omega
      rw [← e]; exact i
    obtain ⟨o, h', e, q, i'⟩ := st x (List.mem_cons_self ..) (b + c * xs.length) h i0
    rw [e]
    rcases q with rfl | rfl
    · refine W_mono (ih (acc ++ [x]) h' i' fun y hy => st y (List.mem_cons_of_mem _ hy)) fun a h q => ⟨?_, q.2⟩
      obtain ⟨ys, e, q⟩ := q.1
      exact ⟨x :: ys, by rw [e]; simp, q.cons_cons x⟩
    · refine W_mono (ih acc h' i' fun y hy => st y (List.mem_cons_of_mem _ hy)) fun a h q => ⟨?_, q.2⟩
      obtain ⟨ys, e, q⟩ := q.1
      exact ⟨ys, e, q.cons x⟩
theorem ris_of : ∀ {is : List Int}, is.Pairwise (· < ·) → risB (is.map T.int) = true
  | [], _ => rfl
  | [a], _ => rfl
  | a :: b :: r, p => by
    have q := List.pairwise_cons.mp p
    have := ris_of q.2
    simp only [List.map_cons] at this ⊢
    simp only [risB, this, Bool.and_true, decide_eq_true_eq]
    exact q.1 b (List.mem_cons_self ..)
/-- years -/
structure YOk (is : List Int) : Prop where
  lt : is.Pairwise (· < ·)
  bd : ∀ x ∈ is, 0 ≤ x ∧ x ≤ 9
  l : is.length ≤ 10
def wR (x t : T) : Prop := ∃ y a b : Int, x = .int y ∧ t = .tup [.int y, .int a, .int b] ∧ (0 ≤ a ∧ a ≤ 99) ∧ (0 ≤ b ∧ b ≤ 99)
theorem w_fst : ∀ {xs ys : List T}, Rel2 wR xs ys → ys.map fstT = xs
  | [], [], _ => rfl
  | x :: xs, y :: ys, h => by
    obtain ⟨_, _, _, rfl, rfl, _⟩ := h.1
    simp [w_fst h.2, fstT]
  | [], _ :: _, h => h.elim
  | _ :: _, [], h => h.elim
theorem w_all : ∀ {is : List Int} {ys : List T}, (∀ x ∈ is, 0 ≤ x ∧ x ≤ 9) → Rel2 wR (is.map T.int) ys → ys.all rowB = true
  | [], [], _, _ => rfl
  | x :: xs, y :: ys, b, h => by
    obtain ⟨y, a, c, e, rfl, ha, hc⟩ := h.1
    have e : x = y := by injection e
    subst e
    have := b x (List.mem_cons_self ..)
    rw [List.all_cons, w_all (fun x hx => b x (List.mem_cons_of_mem _ hx)) h.2, Bool.and_true]
    simp [rowB, am_int this.1 this.2, am_int ha.1 ha.2, am_int hc.1 hc.2]
  | [], _ :: _, _, h => h.elim
  | _ :: _, [], _, h => h.elim
def Y10 : List Int := [0, 1, 2, 3, 4, 5, 6, 7, 8, 9]
theorem y10 : rngD [.s (.int 10)] = some (Y10.map T.int) := rfl
theorem y10_lt : Y10.Pairwise (· < ·) := by decide
theorem y10_bd : ∀ x ∈ Y10, 0 ≤ x ∧ x ≤ 9 := by decide
theorem wants_of {is : List Int} {ys : List T} (s : is.Sublist Y10) (q : Rel2 wR (is.map T.int) ys) : wantsB (.tup ys) = true := by
  have l := q.len
  rw [List.length_map] at l
  have : is.length ≤ 10 := s.length_le
  unfold wantsB
  dsimp only
  rw [w_all (fun x hx => y10_bd x (s.subset hx)) q, w_fst q, ris_of (y10_lt.sublist s)]
  simp only [Bool.and_true, decide_eq_true_eq]
  omega
theorem of_ok {P : Pg} (H : FF P) (n b : Nat) (os : List T) (pre h : LH) (l : 0 < os.length) (l2 : os.length < 1000) (i : Iv (b + 1) pre h) :
    (callF P (n + 3) 1004 [.s (.ref pre.length), .vw os] h).W (fun d h' => ∃ t ∈ os, d = .s t ∧ Iv b pre h') fx := by
  refine call_W H.of rfl ?_
  rw [l_law_of]
  simp only [↓evd, evu, evl, Nat.reduceAdd, Nat.reduceSub, Nat.reduceLeDiff, Nat.reduceEqDiff, Nat.zero_le, Nat.le_refl, Nat.zero_add, Nat.add_zero, Int.reduceEq, Int.reduceLE, Int.reduceLT, Int.reduceAdd, Int.reduceSub, Int.reduceMul, Int.reduceNeg, Int.cast_ofNat_Int, Int.natCast_add, Int.natCast_zero, Int.natCast_one]
  refine W_k (draw_ok H.d n b os.length pre h i (by omega) (by omega)) ?_
  rintro _ h1 ⟨v, rfl, v0, v1, i1⟩
  obtain ⟨t, et, mt⟩ := at_mem (xs := os) v0 v1
  simp only [↓evd, evu, evl, Nat.reduceAdd, Nat.reduceSub, Nat.reduceLeDiff, Nat.reduceEqDiff, Nat.zero_le, Nat.le_refl, Nat.zero_add, Nat.add_zero, Int.reduceEq, Int.reduceLE, Int.reduceLT, Int.reduceAdd, Int.reduceSub, Int.reduceMul, Int.reduceNeg, Int.cast_ofNat_Int, Int.natCast_add, Int.natCast_zero, Int.natCast_one, et]
  exact W_ok.mpr ⟨t, mt, rfl, i1⟩
def hR (x t : T) : Prop := ∃ w r, x = .str w ∧ t = .tup (.str w :: r) ∧ houseB t = true
theorem h_ths : ∀ {ws : List (List Nat)} {ts : List T}, Rel2 hR (ws.map T.str) ts → Ths houseB ts ws
  | [], [], _ => ⟨rfl, rfl⟩
  | w :: ws, t :: ts, h => by
    obtain ⟨w', r, e, rfl, hb⟩ := h.1
    have e : w = w' := by injection e
    subst e
    have q := h_ths (ws := ws) h.2
    exact ⟨by rw [List.all_cons, hb, q.all]; rfl, by rw [List.map_cons, q.nm]; rfl⟩
  | [], _ :: _, h => h.elim
  | _ :: _, [], h => h.elim
theorem at3 {a b c : Int} {v : Int} (v0 : 0 ≤ v) (v1 : v < 3) (p : Int → Prop) (pa : p a) (pb : p b) (pc : p c) : ∃ D : Int, atT [T.int a, .int b, .int c] v = some (.int D) ∧ p D := by
  obtain ⟨t, et, mt⟩ := at_mem (xs := [T.int a, .int b, .int c]) v0 v1
  simp only [List.mem_cons, List.not_mem_nil, or_false] at mt
  rcases mt with rfl | rfl | rfl
  · exact ⟨_, et, pa⟩
  · exact ⟨_, et, pb⟩
  · exact ⟨_, et, pc⟩
theorem sub_ints {is : List Int} {ts : List T} (s : ts.Sublist (is.map T.int)) : ∃ js : List Int, ts = js.map T.int ∧ js.Sublist is := by
  obtain ⟨js, q, e⟩ := List.sublist_map_iff.mp s
  exact ⟨js, e, q⟩
theorem sl_call (f : Nat) (as : List Ex) : slotE (.call f as) = [] := rfl
def RSt (pre : LH) (far : Int) (hs : List T) (os : List (List Nat)) (sn : List (List Nat)) (b j : Nat) (s : Sg) (h : LH) : Prop := ∃ (ts : List T) (s3 s6 s7 s9 : Option D), s = [some (D.s (T.ref pre.length)), some (.s (.int far)), some (.tl hs), s3, some (.tl (os.map T.str)), some (.tl ts), s6, s7, none, s9] ∧ Ths stretchB ts (sn.take j) ∧ ts.length = j ∧ Iv (b + 40 * (6 - j)) pre h
theorem lroll_ok {P : Pg} (H : FF P) (n b : Nat) (pre h : LH) (i : Iv (b + 800) pre h) :
    (callF P (n + 5) 1009 [.s (.ref pre.length)] h).W (fun d h' => ∃ fs hs ss, d = .s (rollT fs hs ss) ∧ RollOk fs hs ss ∧ Iv b pre h') fx := by
  refine call_W H.roll rfl ?_
  rw [l_law_roll]
  simp only [↓evd, evu, evl, Nat.reduceAdd, Nat.reduceSub, Nat.reduceLeDiff, Nat.reduceEqDiff, Nat.zero_le, Nat.le_refl, Nat.zero_add, Nat.add_zero, Int.reduceEq, Int.reduceLE, Int.reduceLT, Int.reduceAdd, Int.reduceSub, Int.reduceMul, Int.reduceNeg, Int.cast_ofNat_Int, Int.natCast_add, Int.natCast_zero, Int.natCast_one]
  refine W_k (draw_ok H.d (n + 2) (b + 799) 3 pre h i (by decide) (by decide)) ?_
  rintro _ h1 ⟨v, rfl, v0, v1, i1⟩
  obtain ⟨far, ef, f0, f1⟩ := at3 (a := 8) (b := 30) (c := 100) v0 v1 (fun x => 0 < x ∧ x ≤ 100) (by decide) (by decide) (by decide)
  simp only [↓evd, evu, evl, Nat.reduceAdd, Nat.reduceSub, Nat.reduceLeDiff, Nat.reduceEqDiff, Nat.zero_le, Nat.le_refl, Nat.zero_add, Nat.add_zero, Int.reduceEq, Int.reduceLE, Int.reduceLT, Int.reduceAdd, Int.reduceSub, Int.reduceMul, Int.reduceNeg, Int.cast_ofNat_Int, Int.natCast_add, Int.natCast_zero, Int.natCast_one, ef]
  refine W_k (draw_ok H.d (n + 2) (b + 798) 9 pre h1 i1 (by decide) (by decide)) ?_
  rintro _ h2 ⟨v, rfl, v0, v1, i2⟩
  simp only [↓evd, evu, evl, Nat.reduceAdd, Nat.reduceSub, Nat.reduceLeDiff, Nat.reduceEqDiff, Nat.zero_le, Nat.le_refl, Nat.zero_add, Nat.add_zero, Int.reduceEq, Int.reduceLE, Int.reduceLT, Int.reduceAdd, Int.reduceSub, Int.reduceMul, Int.reduceNeg, Int.cast_ofNat_Int, Int.natCast_add, Int.natCast_zero, Int.natCast_one]
  refine W_k (names_ok H (n + 1) (b + 700) v pre h2 v0 (by omega) (i2.less (by omega))) ?_
  rintro _ h3 ⟨ws, rfl, lw, nw, i3⟩
  simp only [↓evd, evu, evl, Nat.reduceAdd, Nat.reduceSub, Nat.reduceLeDiff, Nat.reduceEqDiff, Nat.zero_le, Nat.le_refl, Nat.zero_add, Nat.add_zero, Int.reduceEq, Int.reduceLE, Int.reduceLT, Int.reduceAdd, Int.reduceSub, Int.reduceMul, Int.reduceNeg, Int.cast_ofNat_Int, Int.natCast_add, Int.natCast_zero, Int.natCast_one, lcK]
  refine W_k (lc_rel (I := fun b' h => Iv (b + 500 + b') pre h) (r := hR) 20 (fun _ _ _ => rfl) _ h3 0 (i3.less (by rw [List.length_map]; omega)) ?_) ?_
  · intro x hx b' h' ih
    obtain ⟨w, hw, rfl⟩ := List.mem_map.mp hx
    rw [lcB_k rfl]
    simp only [↓evd, evu, evl, Nat.reduceAdd, Nat.reduceSub, Nat.reduceLeDiff, Nat.reduceEqDiff, Nat.zero_le, Nat.le_refl, Nat.zero_add, Nat.add_zero, Int.reduceEq, Int.reduceLE, Int.reduceLT, Int.reduceAdd, Int.reduceSub, Int.reduceMul, Int.reduceNeg, Int.cast_ofNat_Int, Int.natCast_add, Int.natCast_zero, Int.natCast_one]
    refine W_k (lhouse_ok H n (b + 500 + b') far w pre h' (nw.nm w hw) f0 f1 ih) ?_
    rintro _ h4 ⟨r, rfl, hb, i4⟩
    simp only [↓evd, evu, evl, Nat.reduceAdd, Nat.reduceSub, Nat.reduceLeDiff, Nat.reduceEqDiff, Nat.zero_le, Nat.le_refl, Nat.zero_add, Nat.add_zero, Int.reduceEq, Int.reduceLE, Int.reduceLT, Int.reduceAdd, Int.reduceSub, Int.reduceMul, Int.reduceNeg, Int.cast_ofNat_Int, Int.natCast_add, Int.natCast_zero, Int.natCast_one]
    exact W_ok.mpr ⟨_, rfl, ⟨w, r, rfl, rfl, hb⟩, i4⟩
  · rintro hs h4 ⟨q, i4⟩
    have th := h_ths q
    have lh := q.len
    rw [List.length_map] at lh
    simp only [↓evd, evu, evl, Nat.reduceAdd, Nat.reduceSub, Nat.reduceLeDiff, Nat.reduceEqDiff, Nat.zero_le, Nat.le_refl, Nat.zero_add, Nat.add_zero, Int.reduceEq, Int.reduceLE, Int.reduceLT, Int.reduceAdd, Int.reduceSub, Int.reduceMul, Int.reduceNeg, Int.cast_ofNat_Int, Int.natCast_add, Int.natCast_zero, Int.natCast_one]
    refine W_k (names_ok H (n + 1) (b + 400) 4 pre h4 (by decide) (by decide) (i4.less (by omega))) ?_
    rintro _ h5 ⟨os, rfl, lo, no, i5⟩
    simp only [↓evd, evu, evl, Nat.reduceAdd, Nat.reduceSub, Nat.reduceLeDiff, Nat.reduceEqDiff, Nat.zero_le, Nat.le_refl, Nat.zero_add, Nat.add_zero, Int.reduceEq, Int.reduceLE, Int.reduceLT, Int.reduceAdd, Int.reduceSub, Int.reduceMul, Int.reduceNeg, Int.cast_ofNat_Int, Int.natCast_add, Int.natCast_zero, Int.natCast_one]
    refine W_k (draw_ok H.d (n + 2) (b + 398) 7 pre h5 (i5.less (by omega)) (by decide) (by decide)) ?_
    rintro _ h6 ⟨u, rfl, u0, u1, i6⟩
    simp only [↓evd, evu, evl, Nat.reduceAdd, Nat.reduceSub, Nat.reduceLeDiff, Nat.reduceEqDiff, Nat.zero_le, Nat.le_refl, Nat.zero_add, Nat.add_zero, Int.reduceEq, Int.reduceLE, Int.reduceLT, Int.reduceAdd, Int.reduceSub, Int.reduceMul, Int.reduceNeg, Int.cast_ofNat_Int, Int.natCast_add, Int.natCast_zero, Int.natCast_one]
    refine W_k (names_ok H (n + 1) (b + 300) u pre h6 u0 (by omega) (i6.less (by omega))) ?_
    rintro _ h7 ⟨sn, rfl, ln, nn, i7⟩
    simp only [↓evd, evu, evl, Nat.reduceAdd, Nat.reduceSub, Nat.reduceLeDiff, Nat.reduceEqDiff, Nat.zero_le, Nat.le_refl, Nat.zero_add, Nat.add_zero, Int.reduceEq, Int.reduceLE, Int.reduceLT, Int.reduceAdd, Int.reduceSub, Int.reduceMul, Int.reduceNeg, Int.cast_ofNat_Int, Int.natCast_add, Int.natCast_zero, Int.natCast_one, sl_call]
    refine for_atW (fun j s h => RSt pre far hs os sn (b + 30) j s h) (fun _ _ _ _ => rfl) ⟨[], _, _, _, _, rfl, ⟨rfl, rfl⟩, rfl, i7.less (by omega)⟩ ?_ ?_
    · rintro j x hj _ h' ⟨ts, s3, s6, s7, s9, rfl, t2, l3, ih⟩
      have lj := (List.getElem?_eq_some_iff.mp hj).1
      rw [List.length_map] at lj
      rw [List.getElem?_map, List.getElem?_eq_getElem lj] at hj
      injection hj with hj
      subst hj
      rw [forB_k rfl]
      simp only [↓evd, evu, evl, Nat.reduceAdd, Nat.reduceSub, Nat.reduceLeDiff, Nat.reduceEqDiff, Nat.zero_le, Nat.le_refl, Nat.zero_add, Nat.add_zero, Int.reduceEq, Int.reduceLE, Int.reduceLT, Int.reduceAdd, Int.reduceSub, Int.reduceMul, Int.reduceNeg, Int.cast_ofNat_Int, Int.natCast_add, Int.natCast_zero, Int.natCast_one]
      refine N_kf (draw_ok H.d (n + 2) (b + 30 + 40 * (6 - (j + 1)) + 39) 3 pre h' (ih.less (by omega)) (by decide) (by decide)) ?_
      rintro _ h8 ⟨v, rfl, v0, v1, i8⟩
      obtain ⟨M, eM, M0, M1⟩ := at3 (a := 10) (b := 40) (c := 100) v0 v1 (fun x => 0 < x ∧ x ≤ 100) (by decide) (by decide) (by decide)
      simp only [↓evd, evu, evl, Nat.reduceAdd, Nat.reduceSub, Nat.reduceLeDiff, Nat.reduceEqDiff, Nat.zero_le, Nat.le_refl, Nat.zero_add, Nat.add_zero, Int.reduceEq, Int.reduceLE, Int.reduceLT, Int.reduceAdd, Int.reduceSub, Int.reduceMul, Int.reduceNeg, Int.cast_ofNat_Int, Int.natCast_add, Int.natCast_zero, Int.natCast_one, eM, y10, lcK]
      refine N_kf (lc_sub (I := fun b' h => Iv (b + 30 + 40 * (6 - (j + 1)) + 25 + b') pre h) 1 (fun _ _ _ => rfl) _ h8 0 (i8.less (by rw [List.length_map, show Y10.length = 10 from rfl]; omega)) ?_) ?_
      · intro x hx b' h' ih
        rw [lcB_k rfl]
        simp only [↓evd, evu, evl, Nat.reduceAdd, Nat.reduceSub, Nat.reduceLeDiff, Nat.reduceEqDiff, Nat.zero_le, Nat.le_refl, Nat.zero_add, Nat.add_zero, Int.reduceEq, Int.reduceLE, Int.reduceLT, Int.reduceAdd, Int.reduceSub, Int.reduceMul, Int.reduceNeg, Int.cast_ofNat_Int, Int.natCast_add, Int.natCast_zero, Int.natCast_one]
        refine W_k (draw_ok H.d (n + 2) _ 5 pre h' ih (by decide) (by decide)) ?_
        rintro _ h9 ⟨z, rfl, z0, z1, i9⟩
        by_cases zz : z > 0
        · simp only [↓evd, evu, evl, Nat.reduceAdd, Nat.reduceSub, Nat.reduceLeDiff, Nat.reduceEqDiff, Nat.zero_le, Nat.le_refl, Nat.zero_add, Nat.add_zero, Int.reduceEq, Int.reduceLE, Int.reduceLT, Int.reduceAdd, Int.reduceSub, Int.reduceMul, Int.reduceNeg, Int.cast_ofNat_Int, Int.natCast_add, Int.natCast_zero, Int.natCast_one, zz]
          exact W_ok.mpr ⟨.inl rfl, i9⟩
        · simp only [↓evd, evu, evl, Nat.reduceAdd, Nat.reduceSub, Nat.reduceLeDiff, Nat.reduceEqDiff, Nat.zero_le, Nat.le_refl, Nat.zero_add, Nat.add_zero, Int.reduceEq, Int.reduceLE, Int.reduceLT, Int.reduceAdd, Int.reduceSub, Int.reduceMul, Int.reduceNeg, Int.cast_ofNat_Int, Int.natCast_add, Int.natCast_zero, Int.natCast_one, zz]
          exact W_ok.mpr ⟨.inr rfl, i9⟩
      · rintro ys h9 ⟨sy, i9⟩
        obtain ⟨is, rfl, sz⟩ := sub_ints sy
        have li : is.length ≤ 10 := sz.length_le
        simp only [↓evd, evu, evl, Nat.reduceAdd, Nat.reduceSub, Nat.reduceLeDiff, Nat.reduceEqDiff, Nat.zero_le, Nat.le_refl, Nat.zero_add, Nat.add_zero, Int.reduceEq, Int.reduceLE, Int.reduceLT, Int.reduceAdd, Int.reduceSub, Int.reduceMul, Int.reduceNeg, Int.cast_ofNat_Int, Int.natCast_add, Int.natCast_zero, Int.natCast_one, lcK]
        refine N_kf (lc_rel (I := fun b' h => Iv (b + 30 + 40 * (6 - (j + 1)) + 2 + b') pre h) (r := wR) 2 (fun _ _ _ => rfl) _ h9 0 (i9.less (by rw [List.length_map]; omega)) ?_) ?_
        · intro x hx b' h' ih
          obtain ⟨y, hy, rfl⟩ := List.mem_map.mp hx
          rw [lcB_k rfl]
          simp only [↓evd, evu, evl, Nat.reduceAdd, Nat.reduceSub, Nat.reduceLeDiff, Nat.reduceEqDiff, Nat.zero_le, Nat.le_refl, Nat.zero_add, Nat.add_zero, Int.reduceEq, Int.reduceLE, Int.reduceLT, Int.reduceAdd, Int.reduceSub, Int.reduceMul, Int.reduceNeg, Int.cast_ofNat_Int, Int.natCast_add, Int.natCast_zero, Int.natCast_one]
          refine W_k (draw_ok H.d (n + 2) (b + 30 + 40 * (6 - (j + 1)) + 2 + b' + 1) M pre h' ih M0 (by omega)) ?_
          rintro _ ha ⟨p, rfl, p0, p1, ia⟩
          simp only [↓evd, evu, evl, Nat.reduceAdd, Nat.reduceSub, Nat.reduceLeDiff, Nat.reduceEqDiff, Nat.zero_le, Nat.le_refl, Nat.zero_add, Nat.add_zero, Int.reduceEq, Int.reduceLE, Int.reduceLT, Int.reduceAdd, Int.reduceSub, Int.reduceMul, Int.reduceNeg, Int.cast_ofNat_Int, Int.natCast_add, Int.natCast_zero, Int.natCast_one]
          refine W_k (draw_ok H.d (n + 2) (b + 30 + 40 * (6 - (j + 1)) + 2 + b') 100 pre ha ia (by decide) (by decide)) ?_
          rintro _ hb ⟨q, rfl, q0, q1, ib⟩
          simp only [↓evd, evu, evl, Nat.reduceAdd, Nat.reduceSub, Nat.reduceLeDiff, Nat.reduceEqDiff, Nat.zero_le, Nat.le_refl, Nat.zero_add, Nat.add_zero, Int.reduceEq, Int.reduceLE, Int.reduceLT, Int.reduceAdd, Int.reduceSub, Int.reduceMul, Int.reduceNeg, Int.cast_ofNat_Int, Int.natCast_add, Int.natCast_zero, Int.natCast_one]
          exact W_ok.mpr ⟨_, rfl, ⟨y, p, q, rfl, rfl, ⟨p0, by omega⟩, q0, by omega⟩, ib⟩
        · rintro rs ha ⟨qr, ia⟩
          have wo := wants_of sz qr
          simp only [↓evd, evu, evl, Nat.reduceAdd, Nat.reduceSub, Nat.reduceLeDiff, Nat.reduceEqDiff, Nat.zero_le, Nat.le_refl, Nat.zero_add, Nat.add_zero, Int.reduceEq, Int.reduceLE, Int.reduceLT, Int.reduceAdd, Int.reduceSub, Int.reduceMul, Int.reduceNeg, Int.cast_ofNat_Int, Int.natCast_add, Int.natCast_zero, Int.natCast_one, plIs]
          refine N_kf (draw_ok H.d (n + 2) (b + 30 + 40 * (6 - (j + 1)) + 1) far pre ha ia f0 (by omega)) ?_
          rintro _ hb ⟨m, rfl, m0, m1, ib⟩
          simp only [↓evd, evu, evl, Nat.reduceAdd, Nat.reduceSub, Nat.reduceLeDiff, Nat.reduceEqDiff, Nat.zero_le, Nat.le_refl, Nat.zero_add, Nat.add_zero, Int.reduceEq, Int.reduceLE, Int.reduceLT, Int.reduceAdd, Int.reduceSub, Int.reduceMul, Int.reduceNeg, Int.cast_ofNat_Int, Int.natCast_add, Int.natCast_zero, Int.natCast_one]
          refine N_kf (of_ok H (n + 1) (b + 30 + 40 * (6 - (j + 1))) (os.map T.str) pre hb (by rw [List.length_map]; omega) (by rw [List.length_map]; omega) ib) ?_
          rintro _ hc ⟨t, mt, rfl, ic⟩
          obtain ⟨o, mo, rfl⟩ := List.mem_map.mp mt
          have bt : biD .tuple [.vw rs] hc = some (.s (.tup rs)) := rfl
          simp only [↓evd, evu, evl, Nat.reduceAdd, Nat.reduceSub, Nat.reduceLeDiff, Nat.reduceEqDiff, Nat.zero_le, Nat.le_refl, Nat.zero_add, Nat.add_zero, Int.reduceEq, Int.reduceLE, Int.reduceLT, Int.reduceAdd, Int.reduceSub, Int.reduceMul, Int.reduceNeg, Int.cast_ofNat_Int, Int.natCast_add, Int.natCast_zero, Int.natCast_one, bt]
          rw [own_app 5 ts _ _ _ rfl (show ts.length < 1000 by omega)]
          simp only [↓evd, evu, evl, Nat.reduceAdd, Nat.reduceSub, Nat.reduceLeDiff, Nat.reduceEqDiff, Nat.zero_le, Nat.le_refl, Nat.zero_add, Nat.add_zero, Int.reduceEq, Int.reduceLE, Int.reduceLT, Int.reduceAdd, Int.reduceSub, Int.reduceMul, Int.reduceNeg, Int.cast_ofNat_Int, Int.natCast_add, Int.natCast_zero, Int.natCast_one]
          refine N_nx.mpr ⟨_, _, _, _, _, rfl, ?_, by simp [l3], ic⟩
          rw [List.take_succ, List.getElem?_eq_getElem lj]
          refine t2.snoc ?_
          simp only [stretchB, nn.nm _ (List.getElem_mem lj), am_int m0 (show m ≤ 99 by omega), no.nm o mo, wo, Bool.and_self]
    · rintro _ h' ⟨ts, s3, s6, s7, s9, rfl, t2, l3, ih⟩
      rw [List.length_map] at l3 ih t2
      rw [List.take_length] at t2
      simp only [↓evd, evu, evl, Nat.reduceAdd, Nat.reduceSub, Nat.reduceLeDiff, Nat.reduceEqDiff, Nat.zero_le, Nat.le_refl, Nat.zero_add, Nat.add_zero, Int.reduceEq, Int.reduceLE, Int.reduceLT, Int.reduceAdd, Int.reduceSub, Int.reduceMul, Int.reduceNeg, Int.cast_ofNat_Int, Int.natCast_add, Int.natCast_zero, Int.natCast_one]
      refine W_k (lact_ok H n b pre h' (ih.less (by omega))) ?_
      rintro _ h8 ⟨fs, rfl, af, i8⟩
      have b1 : biD .tuple [.vw hs] h8 = some (.s (.tup hs)) := rfl
      have b2 : biD .tuple [.vw ts] h8 = some (.s (.tup ts)) := rfl
      simp only [↓evd, evu, evl, Nat.reduceAdd, Nat.reduceSub, Nat.reduceLeDiff, Nat.reduceEqDiff, Nat.zero_le, Nat.le_refl, Nat.zero_add, Nat.add_zero, Int.reduceEq, Int.reduceLE, Int.reduceLT, Int.reduceAdd, Int.reduceSub, Int.reduceMul, Int.reduceNeg, Int.cast_ofNat_Int, Int.natCast_add, Int.natCast_zero, Int.natCast_one, b1, b2]
      exact W_ok.mpr ⟨fs, hs, ts, rfl, ⟨af, ⟨th.all, ws, th.nm, nw.nd⟩, by omega, ⟨t2.all, sn, t2.nm, nn.nd⟩, by omega⟩, i8⟩
end Rm
set_option Elab.async false
set_option linter.all false
set_option autoImplicit false
set_option maxRecDepth 100000
/-! k31: the law's own look -/
namespace Rm
open K31
def itmR (x : D) (h1 : LH) : R (List T × List Nat) := match dctOf x h1 with
  | some (k, kvs) => if k then .bad else .ok (kvs.map (fun p => .tup [p.1, p.2]), []) h1
  | none => .bad
def vlsR (x : D) (h1 : LH) : R (List T × List Nat) := match dctOf x h1 with
  | some (k, kvs) => if k then .bad else .ok (kvs.map (fun p => p.2), []) h1
  | none => .bad
theorem xI_itm {P : Pg} {G : Nat → List D → LH → R D} {s : Sg} {h : LH} (a : Ex) : evI P G (.itm a) s h = (evE P G a s h).k (fun x h1 => itmR x h1) fx := by rw [evI] <;> rfl
theorem xI_vls {P : Pg} {G : Nat → List D → LH → R D} {s : Sg} {h : LH} (a : Ex) : evI P G (.vls a) s h = (evE P G a s h).k (fun x h1 => vlsR x h1) fx := by rw [evI] <;> rfl
theorem itm_dt (kvs : List (T × T)) (h : LH) : itmR (.dt false kvs) h = .ok (kvs.map (fun p => .tup [p.1, p.2]), []) h := rfl
theorem itm_dv (kvs : List (T × T)) (h : LH) : itmR (.dv false kvs) h = .ok (kvs.map (fun p => .tup [p.1, p.2]), []) h := rfl
theorem vls_dt (kvs : List (T × T)) (h : LH) : vlsR (.dt false kvs) h = .ok (kvs.map (fun p => p.2), []) h := rfl
theorem vls_dv (kvs : List (T × T)) (h : LH) : vlsR (.dv false kvs) h = .ok (kvs.map (fun p => p.2), []) h := rfl
section
variable {P : Pg} {n : Nat} {h : LH}
theorem llast_ok {f : Nat} (H : P.df f = some l_law_last) {most bound : Int} {qs : List (Int × Int)} (t : TbOk most bound qs) (d : Int) (d0 : 0 ≤ d) : callF P (n + 1) f [.s (tbT qs), .s (.int d)] h = .ok (.s (.int (lastP qs d))) h := by
  obtain ⟨p, ep, _, el⟩ := last_some t d0
  rw [call_eq H rfl, l_law_last, tbT]
  simp only [↓evd, evu, evl, Nat.reduceAdd, Nat.reduceSub, Nat.reduceLeDiff, Nat.reduceEqDiff, Nat.zero_le, Nat.le_refl, Nat.zero_add, Nat.add_zero, Int.reduceEq, Int.reduceLE, Int.reduceLT, Int.reduceAdd, Int.reduceSub, Int.reduceMul, Int.reduceNeg, Int.cast_ofNat_Int, Int.natCast_add, Int.natCast_zero, Int.natCast_one, lcK]
  rw [lc_fm (e := ptT) (q := fun p => T.int p.2) (p := fun p => decide (p.1 ≤ d)) rfl]
  rotate_left
  · intro q hq
    rw [lcB_k rfl]
    have a0 : atT [T.int q.1, T.int q.2] 0 = some (.int q.1) := at0 _ _
    have a1 : atT [T.int q.1, T.int q.2] 1 = some (.int q.2) := L2.atI_nat (j := 1) rfl
    rw [ptT]
    by_cases z : q.1 ≤ d
    · simp only [↓evd, evu, evl, Nat.reduceAdd, Nat.reduceSub, Nat.reduceLeDiff, Nat.reduceEqDiff, Nat.zero_le, Nat.le_refl, Nat.zero_add, Nat.add_zero, Int.reduceEq, Int.reduceLE, Int.reduceLT, Int.reduceAdd, Int.reduceSub, Int.reduceMul, Int.reduceNeg, Int.cast_ofNat_Int, Int.natCast_add, Int.natCast_zero, Int.natCast_one, a0, a1, z]; rfl
    · simp only [↓evd, evu, evl, Nat.reduceAdd, Nat.reduceSub, Nat.reduceLeDiff, Nat.reduceEqDiff, Nat.zero_le, Nat.le_refl, Nat.zero_add, Nat.add_zero, Int.reduceEq, Int.reduceLE, Int.reduceLT, Int.reduceAdd, Int.reduceSub, Int.reduceMul, Int.reduceNeg, Int.cast_ofNat_Int, Int.natCast_add, Int.natCast_zero, Int.natCast_one, a0, a1, z]; rfl
  rw [List.nil_append]
  have al : atT ((qs.filter fun p => decide (p.1 ≤ d)).map fun p => T.int p.2) (-1) = some (.int p.2) := at_last (by rw [List.getLast?_map, ep]; rfl)
  simp only [↓evd, evu, evl, Nat.reduceAdd, Nat.reduceSub, Nat.reduceLeDiff, Nat.reduceEqDiff, Nat.zero_le, Nat.le_refl, Nat.zero_add, Nat.add_zero, Int.reduceEq, Int.reduceLE, Int.reduceLT, Int.reduceAdd, Int.reduceSub, Int.reduceMul, Int.reduceNeg, Int.cast_ofNat_Int, Int.natCast_add, Int.natCast_zero, Int.natCast_one, al, el]
/-- the law's given, last being f -/
def givenD (f : Nat) : Df := { np := 2, ns := 3, body := [.ret (.lc (.call f [.ix (.ix (.v 0) (.c (.int 0))) (.c (.int 0)), .call f [.ix (.v 2) (.c (.int 3)), .bin .mul (.c (.int 6)) (.v 1)]]) (.n 2) (.e (.ix (.v 0) (.c (.int 1)))) [] [2])] }
variable {fs : List T} {as : List Hs} {ss : List T} {qs : List (Int × Int)} {x : Int}
theorem given_ok {f g : Nat} (H : P.df f = some l_law_last) (H' : P.df g = some (givenD f)) (o : RO fs as ss qs x) (m : Int) (m0 : 0 ≤ m) (m1 : m ≤ 1000) : callF P (n + 2) g [.s (rollT fs (as.map hT) ss), .s (.int m)] h = .ok (.tl (as.map fun a => .int (due qs a.ls m))) h := by
  obtain ⟨y, r, rfl⟩ := o.e
  rw [call_eq H' rfl, givenD]
  simp only [↓evd, evu, evl, Nat.reduceAdd, Nat.reduceSub, Nat.reduceLeDiff, Nat.reduceEqDiff, Nat.zero_le, Nat.le_refl, Nat.zero_add, Nat.add_zero, Int.reduceEq, Int.reduceLE, Int.reduceLT, Int.reduceAdd, Int.reduceSub, Int.reduceMul, Int.reduceNeg, Int.cast_ofNat_Int, Int.natCast_add, Int.natCast_zero, Int.natCast_one, at_r1, lcK]
  rw [lc_mm (p := hT) (q := fun a => T.int (due qs a.ls m)) rfl]
  rotate_left
  · intro a ha
    have tb := (o.hs.ok a ha).tb
    have l1 := llast_ok (n := n) (h := h) H tb (6 * m) (by omega)
    have b := last_bd tb (d := 6 * m) (by omega)
    have l2 := llast_ok (n := n) (h := h) H o.tb (lastP a.ls (6 * m)) b.1
    have mk : mulOk 6 m = true := by simp only [mulOk, decide_eq_true_eq]; left; omega
    rw [lcB_k rfl, hT]
    simp only [↓evd, evu, evl, Nat.reduceAdd, Nat.reduceSub, Nat.reduceLeDiff, Nat.reduceEqDiff, Nat.zero_le, Nat.le_refl, Nat.zero_add, Nat.add_zero, Int.reduceEq, Int.reduceLE, Int.reduceLT, Int.reduceAdd, Int.reduceSub, Int.reduceMul, Int.reduceNeg, Int.cast_ofNat_Int, Int.natCast_add, Int.natCast_zero, Int.natCast_one, at_r0, at_f0, at_h3, mk, if_true, l1, l2]
    rfl
  rw [List.nil_append]
  simp only [↓evd, evu, evl, Nat.reduceAdd, Nat.reduceSub, Nat.reduceLeDiff, Nat.reduceEqDiff, Nat.zero_le, Nat.le_refl, Nat.zero_add, Nat.add_zero, Int.reduceEq, Int.reduceLE, Int.reduceLT, Int.reduceAdd, Int.reduceSub, Int.reduceMul, Int.reduceNeg, Int.cast_ofNat_Int, Int.natCast_add, Int.natCast_zero, Int.natCast_one]
end
end Rm
set_option Elab.async false
set_option linter.all false
set_option autoImplicit false
set_option maxRecDepth 100000
/-! k31: whether what houses give is told -/
namespace Rm
open K31
theorem ff31 : FF pg := ⟨⟨rfl, rfl, rfl, rfl⟩, rfl, rfl, rfl, rfl, rfl, rfl⟩
theorem hasRoll : HasRoll pg := by
  constructor
  · intro i hi
    simp only [rollF, List.mem_cons, List.not_mem_nil, or_false] at hi
    rcases hi with rfl | rfl | rfl | rfl | rfl | rfl | rfl | rfl | rfl | rfl | rfl | rfl | rfl | rfl | rfl | rfl | rfl | rfl | rfl <;> rfl
  · intro i hi
    simp only [rollG, List.mem_cons, List.not_mem_nil, or_false] at hi
    repeat' rcases hi with rfl | hi
    all_goals first | rfl | (subst hi; rfl)
theorem hasDue : HasDue pg := by
  constructor
  · intro i hi
    simp only [dueF, List.mem_cons, List.not_mem_nil, or_false] at hi
    rcases hi with rfl | rfl | rfl | rfl | rfl | rfl | rfl <;> rfl
  · intro i hi
    simp only [dueG, List.mem_cons, List.not_mem_nil, or_false] at hi
    rcases hi with rfl | rfl <;> rfl
theorem df_last : pg.df 1010 = some l_law_last := rfl
theorem df_given : pg.df 1011 = some (givenD 1010) := rfl
theorem df_right : pg.df 1012 = some l_law_right := rfl
section
variable {n : Nat} {h : LH} {fs : List T} {as : List Hs} {ss : List T} {qs : List (Int × Int)} {x : Int}
theorem right_ok (o : RO fs as ss qs x) (m : Int) (m0 : 0 ≤ m) (m1 : m ≤ 39) :
    (callF pg (n + 9) 1012 [.s (rollT fs (as.map hT) ss), .s (.int m)] h).W (fun d h' => d = .s (.bl true) ∧ h' = h) fx := by
  refine call_W df_right rfl ?_
  rw [l_law_right]
  have r1 := fun h => repr_gw h (gw_roll o.roll) (by decide) (by decide)
  have gv := given_ok (n := n + 6) (h := h) df_last df_given o m m0 (by omega)
  have gi := gives_ok (n := n) (h := h) hasDue hasRoll o m m0 m1
  simp only [↓evd, evu, evl, Nat.reduceAdd, Nat.reduceSub, Nat.reduceLeDiff, Nat.reduceEqDiff, Nat.zero_le, Nat.le_refl, Nat.zero_add, Nat.add_zero, Int.reduceEq, Int.reduceLE, Int.reduceLT, Int.reduceAdd, Int.reduceSub, Int.reduceMul, Int.reduceNeg, Int.cast_ofNat_Int, Int.natCast_add, Int.natCast_zero, Int.natCast_one, r1, lcK, at_r1]
  rw [lc_mm (p := hT) (q := fun a => T.str a.w) rfl]
  rotate_left
  · intro a ha
    rw [lcB_k rfl, hT]
    simp only [↓evd, evu, evl, Nat.reduceAdd, Nat.reduceSub, Nat.reduceLeDiff, Nat.reduceEqDiff, Nat.zero_le, Nat.le_refl, Nat.zero_add, Nat.add_zero, Int.reduceEq, Int.reduceLE, Int.reduceLT, Int.reduceAdd, Int.reduceSub, Int.reduceMul, Int.reduceNeg, Int.cast_ofNat_Int, Int.natCast_add, Int.natCast_zero, Int.natCast_one, at_h0]
  rw [List.nil_append]
  have zd : ∀ p q : Ex, zipD [p, q] [D.tl (as.map fun a => T.str a.w), D.tl (as.map fun a => T.int (due qs a.ls m))] h = some (as.map fun a => T.tup [.str a.w, .int (due qs a.ls m)], []) := by
    intro p q
    rw [← zip2_map]; rfl
  have bl : ∀ xs : List T, bixD .list xs = some (.tl xs) := fun _ => rfl
  have gw : ∀ t ∈ as.map (fun a => T.tup [.str a.w, .int (due qs a.ls m)]), Gw 84 1 t := by
    intro t ht
    obtain ⟨a, ha, rfl⟩ := List.mem_map.mp ht
    have b := last_bd o.tb (d := lastP a.ls (6 * m)) (last_bd (o.hs.ok a ha).tb (d := 6 * m) (by omega)).1
    refine gw_tup (k := 41) (d := 0) (m := 2) (fun y hy => ?_) (by simp)
    simp only [List.mem_cons, List.not_mem_nil, or_false] at hy
    rcases hy with rfl | rfl
    · exact gw_nm (o.hs.ok a ha).nm
    · refine gw_num ⟨(due qs a.ls m).toNat, ?_, ?_⟩
      · congr 1; show due qs a.ls m = _; simp only [due]; omega
      · simp only [due]; omega
  have r2 := repr_tl (m := 8) h gw (by rw [List.length_map]; exact o.hs.l) (by decide) (by decide)
  have rng2 : rngD [.s (.int 2)] = some [.int 0, .int 1] := rfl
  have im : (as.map fun a => (T.str a.w, T.int (due qs a.ls m))).map (fun p => T.tup [p.1, p.2]) = as.map fun a => T.tup [.str a.w, .int (due qs a.ls m)] := by rw [List.map_map]; rfl
  simp only [↓evd, evu, evl, Nat.reduceAdd, Nat.reduceSub, Nat.reduceLeDiff, Nat.reduceEqDiff, Nat.zero_le, Nat.le_refl, Nat.zero_add, Nat.add_zero, Int.reduceEq, Int.reduceLE, Int.reduceLT, Int.reduceAdd, Int.reduceSub, Int.reduceMul, Int.reduceNeg, Int.cast_ofNat_Int, Int.natCast_add, Int.natCast_zero, Int.natCast_one, gv, bl, zd, rng2]
  refine for_atW (fun i s h' => ∃ s5 s6, s = [some (.s (rollT fs (as.map hT) ss)), some (.s (.int m)), some (.s (.str (shT (rollT fs (as.map hT) ss)))), some (.tl (as.map fun a => T.tup [.str a.w, .int (due qs a.ls m)])), none, s5, s6] ∧ h' = h) (fun _ _ _ _ => rfl) ⟨none, none, rfl, rfl⟩ ?_ ?_
  · rintro i x hi _ _ ⟨s5, s6, rfl, rfl⟩
    rw [forB_k rfl]
    have isd : ∀ (kvs : List (T × T)) (h : LH), isiD (.dv false kvs) [.dct] h = some true := fun _ _ => rfl
    simp only [↓evd, evu, evl, Nat.reduceAdd, Nat.reduceSub, Nat.reduceLeDiff, Nat.reduceEqDiff, Nat.zero_le, Nat.le_refl, Nat.zero_add, Nat.add_zero, Int.reduceEq, Int.reduceLE, Int.reduceLT, Int.reduceAdd, Int.reduceSub, Int.reduceMul, Int.reduceNeg, Int.cast_ofNat_Int, Int.natCast_add, Int.natCast_zero, Int.natCast_one, gi, xI_itm, itm_dt, itm_dv, im, bl, r1, r2.1, r2.2, eq_self, isd, plIs]
    have cl : ∀ (i : Nat) (s : Sg) (h : LH) (kvs : List (T × T)), s[i]? = some (some (.dt false kvs)) → chg (.own i) s h fClr = .nx (s.set i (some (.dt false []))) h := fun i s h kvs e => by simp [chg, e, fClr]
    rw [cl 6 _ _ _ rfl]
    simp only [↓evd, evu, evl, Nat.reduceAdd, Nat.reduceSub, Nat.reduceLeDiff, Nat.reduceEqDiff, Nat.zero_le, Nat.le_refl, Nat.zero_add, Nat.add_zero, Int.reduceEq, Int.reduceLE, Int.reduceLT, Int.reduceAdd, Int.reduceSub, Int.reduceMul, Int.reduceNeg, Int.cast_ofNat_Int, Int.natCast_add, Int.natCast_zero, Int.natCast_one]
    exact N_nx.mpr ⟨_, _, rfl, rfl⟩
  · rintro _ _ ⟨s5, s6, rfl, rfl⟩
    simp only [↓evd, evu, evl, Nat.reduceAdd, Nat.reduceSub, Nat.reduceLeDiff, Nat.reduceEqDiff, Nat.zero_le, Nat.le_refl, Nat.zero_add, Nat.add_zero, Int.reduceEq, Int.reduceLE, Int.reduceLT, Int.reduceAdd, Int.reduceSub, Int.reduceMul, Int.reduceNeg, Int.cast_ofNat_Int, Int.natCast_add, Int.natCast_zero, Int.natCast_one]
    exact W_ok.mpr ⟨rfl, rfl⟩
end
end Rm
set_option Elab.async false
set_option linter.all false
set_option autoImplicit false
set_option maxRecDepth 100000
/-! k31: by hand; the law -/
namespace Rm
open K31
theorem df_hand : pg.df 1013 = some l_law_hand_right := rfl
theorem df_law : pg.df 1014 = some llaw := rfl
def hF (w : List Nat) : Hs := ⟨w, 0, 0, [(0, 0)]⟩
def hG (w : List Nat) (d : Int) : Hs := ⟨w, 9, 1, [(0, 499), (d, 500)]⟩
def fs9 (qs : List (Int × Int)) : List T := [tbT qs, .tup [.int 0, .int 1], .int 0, .int 0, .int 0, .int 0, .int 1]
theorem act9 {qs : List (Int × Int)} (t : TbOk 999 9 qs) (l : (qs.length : Int) ≤ 6) : ActOk (fs9 qs) := by
  refine ⟨rfl, ?_⟩
  intro j t' hj
  match j, hj with
  | 0, hj => cases hj; exact TbOk.tab t l
  | 1, hj => cases hj; rfl
  | 2, hj => cases hj; rfl
  | 3, hj => cases hj; rfl
  | 4, hj => cases hj; rfl
  | 5, hj => cases hj; rfl
  | 6, hj => cases hj; rfl
  | j + 7, hj => simp [fs9] at hj
theorem tb9 : TbOk 999 9 [(0, 9)] := ⟨by simp, ⟨9, [], rfl⟩, by simp⟩
theorem tb27 : TbOk 999 9 [(0, 2), (500, 7)] := ⟨by simp, ⟨2, [(500, 7)], rfl⟩, by simp⟩
theorem roF {ws : List (List Nat)} (nm : Nms ws) (l : ws.length ≤ 8) : RO (fs9 [(0, 9)]) (ws.map hF) [] [(0, 9)] 0 := by
  refine ⟨act9 tb9 (by decide), ⟨1, _, rfl⟩, tb9, ⟨?_, ?_, by rw [List.length_map]; exact l⟩, ⟨rfl, [], rfl, List.nodup_nil⟩, by simp⟩
  · intro a ha
    obtain ⟨w, hw, rfl⟩ := List.mem_map.mp ha
    exact ⟨nm.nm w hw, by simp [hF], by simp [hF], ⟨by simp [hF], ⟨0, [], rfl⟩, by simp [hF]⟩, by simp [hF]⟩
  · rw [List.map_map]
    have : ws.map (Hs.w ∘ hF) = ws := (List.map_congr_left fun _ _ => rfl).trans (List.map_id ws)
    rw [this]; exact nm.nd
theorem roG {w : List Nat} (nw : nmT (.str w) = true) {d : Int} (d0 : 0 < d) (d1 : d ≤ 239) : RO (fs9 [(0, 2), (500, 7)]) [hG w d] [] [(0, 2), (500, 7)] 0 := by
  refine ⟨act9 tb27 (by decide), ⟨1, _, rfl⟩, tb27, ⟨?_, by simp, by simp⟩, ⟨rfl, [], rfl, List.nodup_nil⟩, by simp⟩
  intro a ha
  rw [List.mem_singleton.mp ha]
  refine ⟨nw, by simp [hG], by simp [hG], ⟨by simp [hG, d0], ⟨499, [(d, 500)], rfl⟩, ?_⟩, by simp [hG]⟩
  intro p hp
  simp only [hG, List.mem_cons, List.not_mem_nil, or_false] at hp
  rcases hp with rfl | rfl
  · simp
  · simp; omega
theorem dueF9 (w : List Nat) (m : Int) (m0 : 0 ≤ m) : due [(0, 9)] (hF w).ls m = 9 := by
  have a : (0 : Int) ≤ 6 * m := by omega
  simp [due, lastP, hF, a]
theorem dueG9 (w : List Nat) (d m : Int) (m0 : 0 ≤ m) : due [(0, 2), (500, 7)] (hG w d).ls m = if d ≤ 6 * m then 7 else 2 := by
  have a : (0 : Int) ≤ 6 * m := by omega
  by_cases z : d ≤ 6 * m
  · simp [due, lastP, hG, a, z]
  · simp [due, lastP, hG, a, z]
theorem same1 (w : List Nat) (v : Int) (h : LH) : neD (.dt false [(.str w, .int v)]) (.dt false [(.str w, .int v)]) h = some false := by
  simp [neD, dctOf, sameKV, flatT]
theorem dsp1 (w : List Nat) (v : Int) : dspD false [.str w, .int v] = some (.dt false [(.str w, .int v)]) := rfl
theorem hand_right_ok (n b : Nat) (pre h : LH) (i : Iv (b + 100) pre h) : (callF pg (n + 9) 1013 [.s (.ref pre.length)] h).W (fun d h' => d = .s (.bl true) ∧ Iv b pre h') fx := by
  refine call_W df_hand rfl ?_
  rw [l_law_hand_right]
  simp only [↓evd, evu, evl, Nat.reduceAdd, Nat.reduceSub, Nat.reduceLeDiff, Nat.reduceEqDiff, Nat.zero_le, Nat.le_refl, Nat.zero_add, Nat.add_zero, Int.reduceEq, Int.reduceLE, Int.reduceLT, Int.reduceAdd, Int.reduceSub, Int.reduceMul, Int.reduceNeg, Int.cast_ofNat_Int, Int.natCast_add, Int.natCast_zero, Int.natCast_one]
  refine W_k (names_ok ff31 (n + 5) (b + 1) 8 pre h (by decide) (by decide) (i.less (by omega))) ?_
  rintro _ h1 ⟨ws, rfl, lw, nw, i1⟩
  simp only [↓evd, evu, evl, Nat.reduceAdd, Nat.reduceSub, Nat.reduceLeDiff, Nat.reduceEqDiff, Nat.zero_le, Nat.le_refl, Nat.zero_add, Nat.add_zero, Int.reduceEq, Int.reduceLE, Int.reduceLT, Int.reduceAdd, Int.reduceSub, Int.reduceMul, Int.reduceNeg, Int.cast_ofNat_Int, Int.natCast_add, Int.natCast_zero, Int.natCast_one]
  refine W_k (draw_ok ff31.d (n + 6) b 39 pre h1 i1 (by decide) (by decide)) ?_
  rintro _ h2 ⟨m, rfl, m0, m1, i2⟩
  simp only [↓evd, evu, evl, Nat.reduceAdd, Nat.reduceSub, Nat.reduceLeDiff, Nat.reduceEqDiff, Nat.zero_le, Nat.le_refl, Nat.zero_add, Nat.add_zero, Int.reduceEq, Int.reduceLE, Int.reduceLT, Int.reduceAdd, Int.reduceSub, Int.reduceMul, Int.reduceNeg, Int.cast_ofNat_Int, Int.natCast_add, Int.natCast_zero, Int.natCast_one, lcK]
  rw [lc_mm (p := T.str) (q := fun w => hT (hF w)) rfl]
  rotate_left
  · intro a ha
    rw [lcB_k rfl]
    simp only [↓evd, evu, evl, Nat.reduceAdd, Nat.reduceSub, Nat.reduceLeDiff, Nat.reduceEqDiff, Nat.zero_le, Nat.le_refl, Nat.zero_add, Nat.add_zero, Int.reduceEq, Int.reduceLE, Int.reduceLT, Int.reduceAdd, Int.reduceSub, Int.reduceMul, Int.reduceNeg, Int.cast_ofNat_Int, Int.natCast_add, Int.natCast_zero, Int.natCast_one]
    rfl
  rw [List.nil_append]
  have e1 : (ws.map fun w => hT (hF w)) = (ws.map hF).map hT := by rw [List.map_map]; rfl
  have bt : ∀ (xs : List T) (h : LH), biD .tuple [.tl xs] h = some (.s (.tup xs)) := fun _ _ => rfl
  have g1 := gives_ok (n := n) (h := h2) hasDue hasRoll (roF nw (by omega)) (1 + m) (by omega) (by omega)
  simp only [rollT, fs9, tbT, ptT, List.map_cons, List.map_nil] at g1
  have bl : ∀ xs : List T, bixD .list xs = some (.tl xs) := fun _ => rfl
  have vl : ((ws.map hF).map fun a => (T.str a.w, T.int (due [(0, 9)] a.ls (1 + m)))).map (fun p => p.2) = List.replicate 8 (T.int 9) := by
    rw [List.map_map, List.map_map, List.eq_replicate_iff]
    refine ⟨by rw [List.length_map]; omega, fun t ht => ?_⟩
    obtain ⟨w, hw, rfl⟩ := List.mem_map.mp ht
    show T.int (due [(0, 9)] (hF w).ls (1 + m)) = _
    rw [dueF9 w (1 + m) (by omega)]
  have mu : binD .mul (.tl [T.int 9]) (.s (.int 8)) h2 = some (.tl (List.replicate 8 (T.int 9))) := rfl
  have ne8 : neD (.tl (List.replicate 8 (T.int 9))) (.tl (List.replicate 8 (T.int 9))) h2 = some false := ne_tl h2 (by decide) (by decide)
  have sl1 : slD (.s (.tup [T.tup [T.tup [T.int 0, T.int 9]], T.tup [T.int 0, T.int 1], T.int 0, T.int 0, T.int 0, T.int 0, T.int 1])) (some 1) none h2 = some (.s (.tup [T.tup [T.int 0, T.int 1], T.int 0, T.int 0, T.int 0, T.int 0, T.int 1])) := rfl
  have ad : binD .add (.s (.tup [.tup [.tup [.int 0, .int 2], .tup [.int 500, .int 7]]])) (.s (.tup [T.tup [T.int 0, T.int 1], T.int 0, T.int 0, T.int 0, T.int 0, T.int 1])) h2 = some (.s (.tup (fs9 [(0, 2), (500, 7)]))) := rfl
  have mk : mulOk 6 (1 + m) = true := by simp only [mulOk, decide_eq_true_eq]; left; omega
  have slt : ∀ es : List Ex, slotE (.tup es) = [] := fun _ => rfl
  simp only [↓evd, evu, evl, Nat.reduceAdd, Nat.reduceSub, Nat.reduceLeDiff, Nat.reduceEqDiff, Nat.zero_le, Nat.le_refl, Nat.zero_add, Nat.add_zero, Int.reduceEq, Int.reduceLE, Int.reduceLT, Int.reduceAdd, Int.reduceSub, Int.reduceMul, Int.reduceNeg, Int.cast_ofNat_Int, Int.natCast_add, Int.natCast_zero, Int.natCast_one, bt, e1, xI_vls, vls_dt, g1, bl, vl, mu, ne8, sl1, ad, mk, if_true, slt]
  have lw' : 0 < ws.length := by omega
  obtain ⟨w, wr, rfl⟩ : ∃ w wr, ws = w :: wr := by
    cases ws with
    | nil => simp at lw'
    | cons w wr => exact ⟨w, wr, rfl⟩
  have nw1 := nw.nm w (List.mem_cons_self ..)
  have a0 : atT (T.str w :: wr.map T.str) 0 = some (.str w) := at0 _ _
  refine for_atW (fun j s h => ∃ s5 s6 s7 s8 s4, s = [some (D.s (T.ref (List.length pre))), some (D.tl (T.str w :: wr.map T.str)), some (D.s (T.int (1 + m))), some (D.s (T.tup (fs9 [(0, 2), (500, 7)]))), s4, s5, s6, s7, s8] ∧ Iv b pre h) (fun _ _ _ _ => rfl) ⟨_, _, _, _, _, rfl, i2⟩ ?_ ?_
  · rintro j t hj _ h3 ⟨s5, s6, s7, s8, s4, rfl, i3⟩
    have mt := List.mem_of_getElem? hj
    obtain ⟨d, v, rfl, d0, d1, ev⟩ : ∃ d v : Int, t = .tup [.int d, .int v] ∧ 0 < d ∧ d ≤ 239 ∧ v = if d ≤ 6 * (1 + m) then 7 else 2 := by
      simp only [List.mem_cons, List.not_mem_nil, or_false] at mt
      rcases mt with rfl | rfl | rfl
      · exact ⟨_, _, rfl, by omega, by omega, by rw [if_pos (by omega)]⟩
      · exact ⟨_, _, rfl, by omega, by omega, by rw [if_pos (by omega)]⟩
      · exact ⟨_, _, rfl, by omega, by omega, by rw [if_neg (by omega)]⟩
    have ro := roG nw1 d0 d1
    have g1 := gives_ok (n := n) (h := h3) hasDue hasRoll ro (1 + m) (by omega) (by omega)
    have g2 := gives_ok (n := n) (h := h3) hasDue hasRoll ro 0 (by omega) (by omega)
    simp only [List.map_cons, List.map_nil, dueG9 w d (1 + m) (by omega), ← ev] at g1
    simp only [List.map_cons, List.map_nil, dueG9 w d 0 (by omega), show ¬ d ≤ 6 * 0 by omega, if_false] at g2
    simp only [rollT, hT, hG, tbT, ptT, List.map_cons, List.map_nil] at g1 g2
    rw [forB_k (by simp only [b_t, bs_1, bs_0]; rfl)]
    simp only [↓evd, evu, evl, Nat.reduceAdd, Nat.reduceSub, Nat.reduceLeDiff, Nat.reduceEqDiff, Nat.zero_le, Nat.le_refl, Nat.zero_add, Nat.add_zero, Int.reduceEq, Int.reduceLE, Int.reduceLT, Int.reduceAdd, Int.reduceSub, Int.reduceMul, Int.reduceNeg, Int.cast_ofNat_Int, Int.natCast_add, Int.natCast_zero, Int.natCast_one, a0, g1, g2, dsp1, same1]
    exact N_nx.mpr ⟨_, _, _, _, _, rfl, i3⟩
  · rintro _ h3 ⟨s5, s6, s7, s8, s4, rfl, i3⟩
    simp only [↓evd, evu, evl, Nat.reduceAdd, Nat.reduceSub, Nat.reduceLeDiff, Nat.reduceEqDiff, Nat.zero_le, Nat.le_refl, Nat.zero_add, Nat.add_zero, Int.reduceEq, Int.reduceLE, Int.reduceLT, Int.reduceAdd, Int.reduceSub, Int.reduceMul, Int.reduceNeg, Int.cast_ofNat_Int, Int.natCast_add, Int.natCast_zero, Int.natCast_one]
    exact W_ok.mpr ⟨rfl, i3⟩
theorem law31 (ns : List Int) (hn : ns.length ≤ 63) : ∃ h', callF pg 14 1014 [.s (.fl (ns.map T.int))] [] = .ok (.s (.bl true)) h' := by
  have : (callF pg 14 1014 [.s (.fl (ns.map T.int))] []).W (fun d _ => d = .s (.bl true)) fx := by
    refine call_W df_law rfl ?_
    rw [llaw]
    have r3 : rngD [.s (.int 3)] = some (rngT 0 3) := rfl
    simp only [↓evd, evu, evl, Nat.reduceAdd, Nat.reduceSub, Nat.reduceLeDiff, Nat.reduceEqDiff, Nat.zero_le, Nat.le_refl, Nat.zero_add, Nat.add_zero, Int.reduceEq, Int.reduceLE, Int.reduceLT, Int.reduceAdd, Int.reduceSub, Int.reduceMul, Int.reduceNeg, Int.cast_ofNat_Int, Int.natCast_add, Int.natCast_zero, Int.natCast_one, r3]
    refine for_atW (fun i s h => ∃ s1 s2 s3 s4, s = [some (.s (.fl (ns.map T.int))), s1, s2, s3, s4]) (fun _ _ _ _ => rfl) ⟨none, none, none, none, rfl⟩ ?_ ?_
    · rintro i x hi _ h ⟨s1, s2, s3, s4, rfl⟩
      obtain ⟨j, rfl, j0, j1⟩ := rng_mem (List.mem_of_getElem? hi)
      obtain ⟨j, rfl⟩ := Int.eq_ofNat_of_zero_le j0
      obtain ⟨a, s, hk⟩ := state_ok ff31.d 11 ns j (by omega) h
      have iv : Iv 1000 h (Hd h a s 0) := ⟨a, s, 0, rfl, by omega, by omega⟩
      rw [forB_k rfl]
      simp only [↓evd, evu, evl, Nat.reduceAdd, Nat.reduceSub, Nat.reduceLeDiff, Nat.reduceEqDiff, Nat.zero_le, Nat.le_refl, Nat.zero_add, Nat.add_zero, Int.reduceEq, Int.reduceLE, Int.reduceLT, Int.reduceAdd, Int.reduceSub, Int.reduceMul, Int.reduceNeg, Int.cast_ofNat_Int, Int.natCast_add, Int.natCast_zero, Int.natCast_one, hk]
      refine N_kf (lroll_ok ff31 8 200 h _ iv) ?_
      rintro _ h1 ⟨fs, hs, ss, rfl, o, i1⟩
      obtain ⟨as, qs, x, rfl, ro⟩ := ro_of o
      simp only [↓evd, evu, evl, Nat.reduceAdd, Nat.reduceSub, Nat.reduceLeDiff, Nat.reduceEqDiff, Nat.zero_le, Nat.le_refl, Nat.zero_add, Nat.add_zero, Int.reduceEq, Int.reduceLE, Int.reduceLT, Int.reduceAdd, Int.reduceSub, Int.reduceMul, Int.reduceNeg, Int.cast_ofNat_Int, Int.natCast_add, Int.natCast_zero, Int.natCast_one]
      refine N_kf (draw_ok ff31.d 11 199 40 h h1 i1 (by decide) (by decide)) ?_
      rintro _ h2 ⟨v, rfl, v0, v1, i2⟩
      simp only [↓evd, evu, evl, Nat.reduceAdd, Nat.reduceSub, Nat.reduceLeDiff, Nat.reduceEqDiff, Nat.zero_le, Nat.le_refl, Nat.zero_add, Nat.add_zero, Int.reduceEq, Int.reduceLE, Int.reduceLT, Int.reduceAdd, Int.reduceSub, Int.reduceMul, Int.reduceNeg, Int.cast_ofNat_Int, Int.natCast_add, Int.natCast_zero, Int.natCast_one]
      refine N_kf (draw_ok ff31.d 11 198 40 h h2 i2 (by decide) (by decide)) ?_
      rintro _ h3 ⟨u, rfl, u0, u1, i3⟩
      have slt : ∀ es : List Ex, slotE (.tup es) = [] := fun _ => rfl
      simp only [↓evd, evu, evl, Nat.reduceAdd, Nat.reduceSub, Nat.reduceLeDiff, Nat.reduceEqDiff, Nat.zero_le, Nat.le_refl, Nat.zero_add, Nat.add_zero, Int.reduceEq, Int.reduceLE, Int.reduceLT, Int.reduceAdd, Int.reduceSub, Int.reduceMul, Int.reduceNeg, Int.cast_ofNat_Int, Int.natCast_add, Int.natCast_zero, Int.natCast_one, slt]
      refine for_N (fun _ s hh => ∃ s4, s = [some (.s (.fl (ns.map T.int))), some (.s (.int (j : Int))), some (.s (.ref h.length)), some (.s (rollT fs (as.map hT) ss)), s4] ∧ Iv 198 h hh) 0 0 (fun _ _ _ _ => rfl) ⟨_, rfl, i3⟩ ?_ ?_
      · rintro t mt _ _ h4 ⟨s4, rfl, i4⟩
        obtain ⟨m, rfl, m0, m1⟩ : ∃ m : Int, t = .int m ∧ 0 ≤ m ∧ m ≤ 39 := by
          simp only [List.mem_cons, List.not_mem_nil, or_false] at mt
          rcases mt with rfl | rfl | rfl | rfl
          · exact ⟨_, rfl, by omega, by omega⟩
          · exact ⟨_, rfl, by omega, by omega⟩
          · exact ⟨_, rfl, by omega, by omega⟩
          · exact ⟨_, rfl, by omega, by omega⟩
        rw [forB_k rfl]
        simp only [↓evd, evu, evl, Nat.reduceAdd, Nat.reduceSub, Nat.reduceLeDiff, Nat.reduceEqDiff, Nat.zero_le, Nat.le_refl, Nat.zero_add, Nat.add_zero, Int.reduceEq, Int.reduceLE, Int.reduceLT, Int.reduceAdd, Int.reduceSub, Int.reduceMul, Int.reduceNeg, Int.cast_ofNat_Int, Int.natCast_add, Int.natCast_zero, Int.natCast_one]
        refine N_kf (right_ok (n := 4) (h := h4) ro m m0 m1) ?_
        rintro _ _ ⟨rfl, rfl⟩
        simp only [↓evd, evu, evl, Nat.reduceAdd, Nat.reduceSub, Nat.reduceLeDiff, Nat.reduceEqDiff, Nat.zero_le, Nat.le_refl, Nat.zero_add, Nat.add_zero, Int.reduceEq, Int.reduceLE, Int.reduceLT, Int.reduceAdd, Int.reduceSub, Int.reduceMul, Int.reduceNeg, Int.cast_ofNat_Int, Int.natCast_add, Int.natCast_zero, Int.natCast_one]
        exact N_nx.mpr ⟨_, rfl, i4⟩
      · rintro _ h4 ⟨s4, rfl, i4⟩
        simp only [↓evd, evu, evl, Nat.reduceAdd, Nat.reduceSub, Nat.reduceLeDiff, Nat.reduceEqDiff, Nat.zero_le, Nat.le_refl, Nat.zero_add, Nat.add_zero, Int.reduceEq, Int.reduceLE, Int.reduceLT, Int.reduceAdd, Int.reduceSub, Int.reduceMul, Int.reduceNeg, Int.cast_ofNat_Int, Int.natCast_add, Int.natCast_zero, Int.natCast_one]
        refine N_kf (hand_right_ok 4 98 h h4 i4) ?_
        rintro _ h5 ⟨rfl, i5⟩
        simp only [↓evd, evu, evl, Nat.reduceAdd, Nat.reduceSub, Nat.reduceLeDiff, Nat.reduceEqDiff, Nat.zero_le, Nat.le_refl, Nat.zero_add, Nat.add_zero, Int.reduceEq, Int.reduceLE, Int.reduceLT, Int.reduceAdd, Int.reduceSub, Int.reduceMul, Int.reduceNeg, Int.cast_ofNat_Int, Int.natCast_add, Int.natCast_zero, Int.natCast_one]
        exact N_nx.mpr ⟨_, _, _, _, rfl⟩
    · rintro _ h ⟨s1, s2, s3, s4, rfl⟩
      simp only [↓evd, evu, evl, Nat.reduceAdd, Nat.reduceSub, Nat.reduceLeDiff, Nat.reduceEqDiff, Nat.zero_le, Nat.le_refl, Nat.zero_add, Nat.add_zero, Int.reduceEq, Int.reduceLE, Int.reduceLT, Int.reduceAdd, Int.reduceSub, Int.reduceMul, Int.reduceNeg, Int.cast_ofNat_Int, Int.natCast_add, Int.natCast_zero, Int.natCast_one]
      exact W_ok.mpr rfl
  obtain ⟨d, h', e, rfl⟩ := this
  exact ⟨h', e⟩
end Rm
set_option Elab.async false
set_option linter.all false
set_option autoImplicit false
set_option maxRecDepth 100000
set_option maxHeartbeats 0
namespace K31
open PySem PySem.Spec PyProof.Rows L2 Rm Kp
def top (i : Nat) : Stmt := PySem.Challenge.pw_roadmoot_k31_what_houses_give.main.body.getD i (.Pass ⟨0, 0, 0, 0⟩)
def tp_is_among : Dt := ⟨0, "is_among", top 10, ["thing", "least", "most"], ["thing", "least", "most"], p_is_among⟩
def tp_is_day : Dt := ⟨2, "is_day", top 11, ["thing"], ["thing"], p_is_day⟩
def tp_is_year : Dt := ⟨16, "is_year", top 12, ["thing"], ["thing"], p_is_year⟩
def tp_is_month : Dt := ⟨9, "is_month", top 13, ["thing"], ["thing"], p_is_month⟩
def tp_is_name : Dt := ⟨1, "is_name", top 14, ["thing"], ["thing", "letter"], p_is_name⟩
def tp_need_month : Dt := ⟨26, "need_month", top 15, ["thing"], ["thing"], p_need_month⟩
def tp_is_tuple_of : Dt := ⟨3, "is_tuple_of", top 32, ["thing", "many"], ["thing", "many"], p_is_tuple_of⟩
def tp_is_rising : Dt := ⟨10, "is_rising", top 33, ["numbers"], ["numbers", "one", "other"], p_is_rising⟩
def tp_is_table : Dt := ⟨11, "is_table", top 34, ["thing", "least", "most", "is_first", "is_second"], ["thing", "least", "most", "is_first", "is_second", "pair"], p_is_table⟩
def tp_is_land : Dt := ⟨6, "is_land", top 35, ["thing"], ["thing"], p_is_land⟩
def tp_is_due : Dt := ⟨12, "is_due", top 36, ["thing"], ["thing"], p_is_due⟩
def tp_is_steps : Dt := ⟨13, "is_steps", top 37, ["thing"], ["thing"], p_is_steps⟩
def tp_is_team : Dt := ⟨14, "is_team", top 38, ["thing"], ["thing"], p_is_team⟩
def tp_is_field : Dt := ⟨18, "is_field", top 39, ["number", "thing"], ["number", "thing"], p_is_field⟩
def tp_is_lands : Dt := ⟨15, "is_lands", top 40, ["thing"], ["thing"], p_is_lands⟩
def tp_is_house : Dt := ⟨21, "is_house", top 41, ["thing"], ["thing"], p_is_house⟩
def tp_is_wants : Dt := ⟨17, "is_wants", top 42, ["thing"], ["thing", "row", "number"], p_is_wants⟩
def tp_is_stretch : Dt := ⟨22, "is_stretch", top 43, ["thing"], ["thing"], p_is_stretch⟩
def tp_first_bad : Dt := ⟨20, "first_bad", top 44, ["things", "is_one"], ["things", "is_one", "names", "number", "thing"], p_first_bad⟩
def tp_need_act : Dt := ⟨19, "need_act", top 45, ["thing"], ["thing", "number", "field"], p_need_act⟩
def tp_need_roll : Dt := ⟨25, "need_roll", top 46, ["thing"], ["thing", "part", "act", "houses", "stretches", "number"], p_need_roll⟩
def tp_last_of : Dt := ⟨23, "last_of", top 47, ["table", "number"], ["table", "number", "pair"], p_last_of⟩
def tp_due_in : Dt := ⟨24, "due_in", top 48, ["roll", "house", "month"], ["roll", "house", "month"], p_due_in⟩
def tp_days_given : Dt := ⟨28, "days_given", top 50, ["roll", "month"], ["roll", "month", "house"], p_days_given⟩
def tp_by_names : Dt := ⟨27, "by_names", top 51, ["things", "numbers"], ["things", "numbers", "thing", "number"], p_by_names⟩
def tp_gives : Dt := ⟨29, "gives", top 52, ["roll", "month"], ["roll", "month"], p_gives⟩
def tl_law_cell_at : Dt := ⟨1000, "_law_cell_at", top 54, ["_law_script", "_law_k"], ["_law_script", "_law_k"], l_law_cell_at⟩
def tl_law_mixed : Dt := ⟨1001, "_law_mixed", top 55, ["_law_cell", "_law_k"], ["_law_cell", "_law_k"], l_law_mixed⟩
def tl_law_state : Dt := ⟨1002, "_law_state", top 56, ["_law_script", "_law_k"], ["_law_script", "_law_k", "_law_cell"], l_law_state⟩
def tl_law_draw : Dt := ⟨1003, "_law_draw", top 57, ["_law_state_here", "_law_many"], ["_law_state_here", "_law_many", "_law_found", "_law_number"], l_law_draw⟩
def tl_law_of : Dt := ⟨1004, "_law_of", top 58, ["_law_state_here", "_law_things"], ["_law_state_here", "_law_things"], l_law_of⟩
def tl_law_names : Dt := ⟨1005, "_law_names", top 59, ["_law_state_here", "_law_many"], ["_law_state_here", "_law_many", "_law_letters", "_law_found", "_law_k", "_law_name", "_law_j"], l_law_names⟩
def tl_law_rising : Dt := ⟨1006, "_law_rising", top 60, ["_law_state_here", "_law_many", "_law_most"], ["_law_state_here", "_law_many", "_law_most", "_law_k"], l_law_rising⟩
def tl_law_act : Dt := ⟨1007, "_law_act", top 61, ["_law_state_here"], ["_law_state_here", "_law_steps", "_law_land", "_law_team", "_law_some", "_law_most"], l_law_act⟩
def tl_law_house : Dt := ⟨1008, "_law_house", top 62, ["_law_state_here", "_law_name", "_law_far"], ["_law_state_here", "_law_name", "_law_far", "_law_days", "_law_lands", "_law_day"], l_law_house⟩
def tl_law_roll : Dt := ⟨1009, "_law_roll", top 63, ["_law_state_here"], ["_law_state_here", "_law_far", "_law_houses", "_law_name", "_law_overseers", "_law_stretches", "_law_most", "_law_years", "_law_year", "_law_wants"], l_law_roll⟩
def tl_law_last : Dt := ⟨1010, "_law_last", top 64, ["_law_table", "_law_number"], ["_law_table", "_law_number", "_law_pair"], l_law_last⟩
def tl_law_given : Dt := ⟨1011, "_law_given", top 65, ["_law_roll_here", "_law_month"], ["_law_roll_here", "_law_month", "_law_house_here"], l_law_given⟩
def tl_law_right : Dt := ⟨1012, "_law_right", top 66, ["_law_roll_here", "_law_month"], ["_law_roll_here", "_law_month", "_law_kept", "_law_due", "_law_house_here", "_law_turn", "_law_found"], l_law_right⟩
def tl_law_hand_right : Dt := ⟨1013, "_law_hand_right", top 67, ["_law_state_here"], ["_law_state_here", "_law_names_here", "_law_month", "_law_act_here", "_law_full", "_law_name", "_law_day", "_law_due", "_law_roll_here"], l_law_hand_right⟩
def tllaw : Dt := ⟨1014, "law", top 68, ["_law_script"], ["_law_script", "_law_k", "_law_state_here", "_law_roll_here", "_law_month"], llaw⟩
def D : TxD := { dts := [tp_is_among, tp_is_day, tp_is_year, tp_is_month, tp_is_name, tp_need_month, tp_is_tuple_of, tp_is_rising, tp_is_table, tp_is_land, tp_is_due, tp_is_steps, tp_is_team, tp_is_field, tp_is_lands, tp_is_house, tp_is_wants, tp_is_stretch, tp_first_bad, tp_need_act, tp_need_roll, tp_last_of, tp_due_in, tp_days_given, tp_by_names, tp_gives, tl_law_cell_at, tl_law_mixed, tl_law_state, tl_law_draw, tl_law_of, tl_law_names, tl_law_rising, tl_law_act, tl_law_house, tl_law_roll, tl_law_last, tl_law_given, tl_law_right, tl_law_hand_right, tllaw], gls := [(2, "SMALL", .str [97, 98, 99, 100, 101, 102, 103, 104, 105, 106, 107, 108, 109, 110, 111, 112, 113, 114, 115, 116, 117, 118, 119, 120, 121, 122]), (1, "MOST_LETTERS", .int 8), (0, "DAYS", .int 240), (11, "IN_YEAR", .int 24), (12, "IN_MONTH", .int 6), (3, "MOST_LAND", .int 999), (13, "MOST_DAYS", .int 9), (15, "MOST_COUNT", .int 6), (18, "MOST_MONEY", .int 99), (19, "MOST_BOUND", .int 40), (17, "MOST_LOADS", .int 9), (22, "MOST_HANDS", .int 9), (21, "MOST_MILE", .int 99), (14, "MOST_STEPS", .int 6), (20, "MOST_LANDS", .int 8), (23, "MOST_WANTS", .int 10), (24, "MOST_WANTED", .int 99), (26, "MOST_HOUSES", .int 8), (25, "MOST_STRETCHES", .int 6), (16, "FIELDS", .int 7)], gds := [] }
theorem okp_is_among : tp_is_among.okB (nmOf D) = true := by decide +kernel
theorem bp_is_among : BindP tp_is_among := fun _ _ _ _ _ _ us hl => match us, hl with | [_, _, _], _ => rfl
theorem okp_is_day : tp_is_day.okB (nmOf D) = true := by decide +kernel
theorem bp_is_day : BindP tp_is_day := fun _ _ _ _ _ _ us hl => match us, hl with | [_], _ => rfl
theorem okp_is_year : tp_is_year.okB (nmOf D) = true := by decide +kernel
theorem bp_is_year : BindP tp_is_year := fun _ _ _ _ _ _ us hl => match us, hl with | [_], _ => rfl
theorem okp_is_month : tp_is_month.okB (nmOf D) = true := by decide +kernel
theorem bp_is_month : BindP tp_is_month := fun _ _ _ _ _ _ us hl => match us, hl with | [_], _ => rfl
theorem okp_is_name : tp_is_name.okB (nmOf D) = true := by decide +kernel
theorem bp_is_name : BindP tp_is_name := fun _ _ _ _ _ _ us hl => match us, hl with | [_], _ => rfl
theorem okp_need_month : tp_need_month.okB (nmOf D) = true := by decide +kernel
theorem bp_need_month : BindP tp_need_month := fun _ _ _ _ _ _ us hl => match us, hl with | [_], _ => rfl
theorem okp_is_tuple_of : tp_is_tuple_of.okB (nmOf D) = true := by decide +kernel
theorem bp_is_tuple_of : BindP tp_is_tuple_of := fun _ _ _ _ _ _ us hl => match us, hl with | [_, _], _ => rfl
theorem okp_is_rising : tp_is_rising.okB (nmOf D) = true := by decide +kernel
theorem bp_is_rising : BindP tp_is_rising := fun _ _ _ _ _ _ us hl => match us, hl with | [_], _ => rfl
theorem okp_is_table : tp_is_table.okB (nmOf D) = true := by decide +kernel
theorem bp_is_table : BindP tp_is_table := fun _ _ _ _ _ _ us hl => match us, hl with | [_, _, _, _, _], _ => rfl
theorem okp_is_land : tp_is_land.okB (nmOf D) = true := by decide +kernel
theorem bp_is_land : BindP tp_is_land := fun _ _ _ _ _ _ us hl => match us, hl with | [_], _ => rfl
theorem okp_is_due : tp_is_due.okB (nmOf D) = true := by decide +kernel
theorem bp_is_due : BindP tp_is_due := fun _ _ _ _ _ _ us hl => match us, hl with | [_], _ => rfl
theorem okp_is_steps : tp_is_steps.okB (nmOf D) = true := by decide +kernel
theorem bp_is_steps : BindP tp_is_steps := fun _ _ _ _ _ _ us hl => match us, hl with | [_], _ => rfl
theorem okp_is_team : tp_is_team.okB (nmOf D) = true := by decide +kernel
theorem bp_is_team : BindP tp_is_team := fun _ _ _ _ _ _ us hl => match us, hl with | [_], _ => rfl
theorem okp_is_field : tp_is_field.okB (nmOf D) = true := by decide +kernel
theorem bp_is_field : BindP tp_is_field := fun _ _ _ _ _ _ us hl => match us, hl with | [_, _], _ => rfl
theorem okp_is_lands : tp_is_lands.okB (nmOf D) = true := by decide +kernel
theorem bp_is_lands : BindP tp_is_lands := fun _ _ _ _ _ _ us hl => match us, hl with | [_], _ => rfl
theorem okp_is_house : tp_is_house.okB (nmOf D) = true := by decide +kernel
theorem bp_is_house : BindP tp_is_house := fun _ _ _ _ _ _ us hl => match us, hl with | [_], _ => rfl
theorem okp_is_wants : tp_is_wants.okB (nmOf D) = true := by decide +kernel
theorem bp_is_wants : BindP tp_is_wants := fun _ _ _ _ _ _ us hl => match us, hl with | [_], _ => rfl
theorem okp_is_stretch : tp_is_stretch.okB (nmOf D) = true := by decide +kernel
theorem bp_is_stretch : BindP tp_is_stretch := fun _ _ _ _ _ _ us hl => match us, hl with | [_], _ => rfl
theorem okp_first_bad : tp_first_bad.okB (nmOf D) = true := by decide +kernel
theorem bp_first_bad : BindP tp_first_bad := fun _ _ _ _ _ _ us hl => match us, hl with | [_, _], _ => rfl
theorem okp_need_act : tp_need_act.okB (nmOf D) = true := by decide +kernel
theorem bp_need_act : BindP tp_need_act := fun _ _ _ _ _ _ us hl => match us, hl with | [_], _ => rfl
theorem okp_need_roll : tp_need_roll.okB (nmOf D) = true := by decide +kernel
theorem bp_need_roll : BindP tp_need_roll := fun _ _ _ _ _ _ us hl => match us, hl with | [_], _ => rfl
theorem okp_last_of : tp_last_of.okB (nmOf D) = true := by decide +kernel
theorem bp_last_of : BindP tp_last_of := fun _ _ _ _ _ _ us hl => match us, hl with | [_, _], _ => rfl
theorem okp_due_in : tp_due_in.okB (nmOf D) = true := by decide +kernel
theorem bp_due_in : BindP tp_due_in := fun _ _ _ _ _ _ us hl => match us, hl with | [_, _, _], _ => rfl
theorem okp_days_given : tp_days_given.okB (nmOf D) = true := by decide +kernel
theorem bp_days_given : BindP tp_days_given := fun _ _ _ _ _ _ us hl => match us, hl with | [_, _], _ => rfl
theorem okp_by_names : tp_by_names.okB (nmOf D) = true := by decide +kernel
theorem bp_by_names : BindP tp_by_names := fun _ _ _ _ _ _ us hl => match us, hl with | [_, _], _ => rfl
theorem okp_gives : tp_gives.okB (nmOf D) = true := by decide +kernel
theorem bp_gives : BindP tp_gives := fun _ _ _ _ _ _ us hl => match us, hl with | [_, _], _ => rfl
theorem okl_law_cell_at : tl_law_cell_at.okB (nmOf D) = true := by decide +kernel
theorem bl_law_cell_at : BindP tl_law_cell_at := fun _ _ _ _ _ _ us hl => match us, hl with | [_, _], _ => rfl
theorem okl_law_mixed : tl_law_mixed.okB (nmOf D) = true := by decide +kernel
theorem bl_law_mixed : BindP tl_law_mixed := fun _ _ _ _ _ _ us hl => match us, hl with | [_, _], _ => rfl
theorem okl_law_state : tl_law_state.okB (nmOf D) = true := by decide +kernel
theorem bl_law_state : BindP tl_law_state := fun _ _ _ _ _ _ us hl => match us, hl with | [_, _], _ => rfl
theorem okl_law_draw : tl_law_draw.okB (nmOf D) = true := by decide +kernel
theorem bl_law_draw : BindP tl_law_draw := fun _ _ _ _ _ _ us hl => match us, hl with | [_, _], _ => rfl
theorem okl_law_of : tl_law_of.okB (nmOf D) = true := by decide +kernel
theorem bl_law_of : BindP tl_law_of := fun _ _ _ _ _ _ us hl => match us, hl with | [_, _], _ => rfl
theorem okl_law_names : tl_law_names.okB (nmOf D) = true := by decide +kernel
theorem bl_law_names : BindP tl_law_names := fun _ _ _ _ _ _ us hl => match us, hl with | [_, _], _ => rfl
theorem okl_law_rising : tl_law_rising.okB (nmOf D) = true := by decide +kernel
theorem bl_law_rising : BindP tl_law_rising := fun _ _ _ _ _ _ us hl => match us, hl with | [_, _, _], _ => rfl
theorem okl_law_act : tl_law_act.okB (nmOf D) = true := by decide +kernel
theorem bl_law_act : BindP tl_law_act := fun _ _ _ _ _ _ us hl => match us, hl with | [_], _ => rfl
theorem okl_law_house : tl_law_house.okB (nmOf D) = true := by decide +kernel
theorem bl_law_house : BindP tl_law_house := fun _ _ _ _ _ _ us hl => match us, hl with | [_, _, _], _ => rfl
theorem okl_law_roll : tl_law_roll.okB (nmOf D) = true := by decide +kernel
theorem bl_law_roll : BindP tl_law_roll := fun _ _ _ _ _ _ us hl => match us, hl with | [_], _ => rfl
theorem okl_law_last : tl_law_last.okB (nmOf D) = true := by decide +kernel
theorem bl_law_last : BindP tl_law_last := fun _ _ _ _ _ _ us hl => match us, hl with | [_, _], _ => rfl
theorem okl_law_given : tl_law_given.okB (nmOf D) = true := by decide +kernel
theorem bl_law_given : BindP tl_law_given := fun _ _ _ _ _ _ us hl => match us, hl with | [_, _], _ => rfl
theorem okl_law_right : tl_law_right.okB (nmOf D) = true := by decide +kernel
theorem bl_law_right : BindP tl_law_right := fun _ _ _ _ _ _ us hl => match us, hl with | [_, _], _ => rfl
theorem okl_law_hand_right : tl_law_hand_right.okB (nmOf D) = true := by decide +kernel
theorem bl_law_hand_right : BindP tl_law_hand_right := fun _ _ _ _ _ _ us hl => match us, hl with | [_], _ => rfl
theorem okllaw : tllaw.okB (nmOf D) = true := by decide +kernel
theorem bllaw : BindP tllaw := fun _ _ _ _ _ _ us hl => match us, hl with | [_], _ => rfl
theorem okA : ∀ t ∈ D.dts, t.okB (nmOf D) = true := by
  show ∀ t ∈ [tp_is_among, tp_is_day, tp_is_year, tp_is_month, tp_is_name, tp_need_month, tp_is_tuple_of, tp_is_rising, tp_is_table, tp_is_land, tp_is_due, tp_is_steps, tp_is_team, tp_is_field, tp_is_lands, tp_is_house, tp_is_wants, tp_is_stretch, tp_first_bad, tp_need_act, tp_need_roll, tp_last_of, tp_due_in, tp_days_given, tp_by_names, tp_gives, tl_law_cell_at, tl_law_mixed, tl_law_state, tl_law_draw, tl_law_of, tl_law_names, tl_law_rising, tl_law_act, tl_law_house, tl_law_roll, tl_law_last, tl_law_given, tl_law_right, tl_law_hand_right, tllaw], t.okB (nmOf D) = true
  simp only [List.forall_mem_cons]
  exact ⟨okp_is_among, okp_is_day, okp_is_year, okp_is_month, okp_is_name, okp_need_month, okp_is_tuple_of, okp_is_rising, okp_is_table, okp_is_land, okp_is_due, okp_is_steps, okp_is_team, okp_is_field, okp_is_lands, okp_is_house, okp_is_wants, okp_is_stretch, okp_first_bad, okp_need_act, okp_need_roll, okp_last_of, okp_due_in, okp_days_given, okp_by_names, okp_gives, okl_law_cell_at, okl_law_mixed, okl_law_state, okl_law_draw, okl_law_of, okl_law_names, okl_law_rising, okl_law_act, okl_law_house, okl_law_roll, okl_law_last, okl_law_given, okl_law_right, okl_law_hand_right, okllaw, fun _ h => by cases h⟩
theorem bA : ∀ t ∈ D.dts, BindP t := by
  show ∀ t ∈ [tp_is_among, tp_is_day, tp_is_year, tp_is_month, tp_is_name, tp_need_month, tp_is_tuple_of, tp_is_rising, tp_is_table, tp_is_land, tp_is_due, tp_is_steps, tp_is_team, tp_is_field, tp_is_lands, tp_is_house, tp_is_wants, tp_is_stretch, tp_first_bad, tp_need_act, tp_need_roll, tp_last_of, tp_due_in, tp_days_given, tp_by_names, tp_gives, tl_law_cell_at, tl_law_mixed, tl_law_state, tl_law_draw, tl_law_of, tl_law_names, tl_law_rising, tl_law_act, tl_law_house, tl_law_roll, tl_law_last, tl_law_given, tl_law_right, tl_law_hand_right, tllaw], BindP t
  simp only [List.forall_mem_cons]
  exact ⟨bp_is_among, bp_is_day, bp_is_year, bp_is_month, bp_is_name, bp_need_month, bp_is_tuple_of, bp_is_rising, bp_is_table, bp_is_land, bp_is_due, bp_is_steps, bp_is_team, bp_is_field, bp_is_lands, bp_is_house, bp_is_wants, bp_is_stretch, bp_first_bad, bp_need_act, bp_need_roll, bp_last_of, bp_due_in, bp_days_given, bp_by_names, bp_gives, bl_law_cell_at, bl_law_mixed, bl_law_state, bl_law_draw, bl_law_of, bl_law_names, bl_law_rising, bl_law_act, bl_law_house, bl_law_roll, bl_law_last, bl_law_given, bl_law_right, bl_law_hand_right, bllaw, fun _ h => by cases h⟩
theorem okG : (D.gls.all fun g => decide ((nmOf D).gn g.1 = g.2.1)) = true := by decide +kernel
theorem okD : (D.gds.all fun g => decide ((nmOf D).gn g.1 = g.2.1)) = true := by decide +kernel
end K31
set_option Elab.async false
set_option linter.all false
set_option maxRecDepth 100000
set_option maxHeartbeats 0
namespace K31
open Rm
theorem pgOk : PgOk D pg := ⟨fun f d h => lk_map (l := D.dts) (g := fun t => (t.id, t.df)) h, fun k t h => lk_map (l := D.gls) (g := fun g => (g.1, g.2.2)) h, fun k t h => lk_map (l := D.gds) (g := fun g => (g.1, g.2.2)) h, okA, okG, okD, bA⟩
theorem lawIn : tllaw ∈ D.dts := by
  show tllaw ∈ [_, _, _, _, _, _, _, _, _, _, _, _, _, _, _, _, _, _, _, _, _, _, _, _, _, _, _, _, _, _, _, _, _, _, _, _, _, _, _, _, _]
  repeat first | exact List.mem_cons_self .. | apply List.mem_cons_of_mem
end K31
open PySem PySem.W PyProof.Rows
theorem PySem.Challenge.cw_roadmoot_k31_what_houses_give_holds : PySem.Challenge.rw_roadmoot_k31_what_houses_give.Holds := by
  w_on; o_law; k_head; (case hw => w_witness2)
  k_fill
  refine Rm.walk_ofG (l := PySem.Challenge.rw_roadmoot_k31_what_houses_give) (n := 63) (k := 14) (f := 1014) (x := "_law_script") rfl (by decide) rfl ⟨rfl, by decide, by decide⟩ ?F
  case F =>
    intro w mg fa h Y G hmg
    have KX := PySem.W.kIn_of Y
    exact Rm.law_of (t := K31.tllaw) K31.pgOk KX G (by kernel_rfl) K31.lawIn rfl rfl hmg Rm.law31
