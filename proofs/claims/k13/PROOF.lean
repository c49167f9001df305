import PyProof.Rows.All
import Wide.All
import OpenK.AllK
import Wide.FinOn
import PyProof.P3Statements
import PyProof.ReprReads
import HandS.ForMost
import HandS.Exc
import HandS.ExcOwn
import HandS.ExcValue
import HandS.TupAny
import HandS.TupLe
import HandS.IsInst
import HandS.Wide
import HandS.Deep
import KE.DataFind
import HandS.TryOnly
import HandS.Style
import HandS.ExcIs
import HandS.Walk
import HandS.Star
import HandS.HeadEnd
import HandS.HeadHook1
import HandS.HeadHook2
import HandS.HeadHook3
import HandS.HeadHook4
import HandS.Defaults
import HandS.Head0
import HandS.Head1
import HandS.Head2
import KE.KStateDown
import PyProof.Rows.RegFStrParts
import PySem.Challenge.RW_starlines_k13_lines_with_wrong_ends
set_option Elab.async false
set_option linter.all false
set_option maxRecDepth 100000
/-! A0: the pure meaning: data, store, expressions, statements. -/
namespace SL
open PySem

/-- data: what a Python value is, lists that nobody changes by value, others by their number in the store -/
inductive DK where
  | int (i : Int)
  | str (x : List Nat)
  deriving DecidableEq
inductive D where
  | non
  | bl (b : Bool)
  | int (i : Int)
  | str (x : List Nat)
  | tup (ds : List D)
  | lst (ds : List D)
  | scr (ns : List Int)
  | ref (k : Nat)
  | dct (ks : List DK) (ds : List D)

inductive Ob where
  | lst (ds : List D)
  | ins (c : Nat) (fs : List (Nat × D))
  | exc (c : Nat) (fs : List (Nat × D))
  | dct (ks : List DK) (ds : List D)

abbrev Sto := List Ob
abbrev FS := List (Option D)

inductive Out (α : Type) where
  | ok (a : α) (S : Sto)
  | exc (c : Nat) (fs : List (Nat × D)) (S : Sto)
  | bad

def Out.bind {α β : Type} (o : Out α) (f : α → Sto → Out β) : Out β :=
  match o with
  | .ok a S => f a S
  | .exc c fs S => .exc c fs S
  | .bad => .bad
@[simp] theorem Out.ok_bind {α β : Type} (a : α) (S : Sto) (f : α → Sto → Out β) : (Out.ok a S).bind f = f a S := rfl
@[simp] theorem Out.exc_bind {α β : Type} (c : Nat) (fs : List (Nat × D)) (S : Sto) (f : α → Sto → Out β) : (Out.exc c fs S).bind f = .exc c fs S := rfl
@[simp] theorem Out.bad_bind {α β : Type} (f : α → Sto → Out β) : (Out.bad : Out α).bind f = .bad := rfl

/-- the largest length -/
abbrev sz : Nat := 16777216

inductive Bop where
  | add | sub | mul | mod | fdiv | pow
inductive Cop where
  | eq | ne | lt | le | gt | ge | isin | notin
inductive Ty where
  | str | int | bool | tup | lst
  | own (c : Nat)
  | ve
inductive Blt where
  | len | int | str | repr | all | any | max | min | list | tuple | sum
inductive Mt where
  | join | append | count | index | insert | pop

inductive Tg where
  | name (i : Nat)
  | tup (is : List Nat)

mutual
inductive E where
  | var (i : Nat)
  | cst (d : D)
  | glo (x : Nat)
  | tup (es : Es)
  | lst (es : Es)
  | newL (es : Es)
  | newC (es : Es)
  | bin (op : Bop) (a b : E)
  | cmp (op : Cop) (a b : E)
  | isN (a : E)
  | notN (a : E)
  | isB (b : Bool) (a : E)
  | notB (b : Bool) (a : E)
  | and (a b : E)
  | or (a b : E)
  | not (a : E)
  | neg (a : E)
  | ite (c a b : E)
  | sub (a i : E)
  | slc (a : E) (lo hi : Oe)
  | call (f : Nat) (es : Es)
  | blt (b : Blt) (es : Es)
  | isi (a : E) (ts : List Ty)
  | mth (m : Mt) (o : E) (es : Es)
  | fld (f : Nat) (o : E)
  | comp (elt : E) (tg : Tg) (it : It) (cond : Oe) (own : List Nat)
  | never
  | dnew
  | keys (i j : Nat)
  | disp (ks : List DK) (vs : Es)
  | dget (o e d : E)
  | callD (f : Nat) (es : Es)
  | newP (a b : E)
inductive Oe where
  | no
  | yes (e : E)
inductive Es where
  | nil
  | cons (e : E) (r : Es)
  | star (e : E) (r : Es)
inductive It where
  | val (e : E)
  | range1 (a : E)
  | range2 (a b : E)
end

mutual
inductive S where
  | asg (tg : Tg) (e : E)
  | par (is : List Nat) (es : Es)
  | put (o i e : E)
  | aug (i : Nat) (op : Bop) (e : E)
  | augS (o i : E) (op : Bop) (e : E)
  | exp (e : E)
  | ret (e : E)
  | ifs (c : E) (a b : Ss)
  | whl (c : E) (a : Ss)
  | fors (tg : Tg) (it : It) (a : Ss)
  | brk
  | cont
  | raise (c : Nat) (es : Es)
  | trys (body : Ss) (c : Nat) (e v : Nat)
  | never
inductive Ss where
  | nil
  | cons (s : S) (r : Ss)
end

/-! ### keys of dicts -/
def dkOf : D → Option DK
  | .int i => some (.int i)
  | .str x => some (.str x)
  | _ => none
def dkD : DK → D
  | .int i => .int i
  | .str x => .str x
def kGet : List DK → List D → DK → Option D
  | k' :: ks, d :: ds, k => if k' = k then some d else kGet ks ds k
  | _, _, _ => none
def kSet : List DK → List D → DK → D → List D
  | k' :: ks, d :: ds, k, e => (if k' = k then e else d) :: kSet ks ds k e
  | _, ds, _, _ => ds
def kPutK (ks : List DK) (k : DK) : List DK := if k ∈ ks then ks else ks ++ [k]
def kPutD (ks : List DK) (ds : List D) (k : DK) (d : D) : List D := if k ∈ ks then kSet ks ds k d else ds ++ [d]

/-! ### the module's constants -/
/-- 0 SIGNS, 1 NONE, 2 EMPTY -/
def gloD : Nat → Option D
  | 0 => some (.str [97, 98, 99, 100, 101, 102, 103, 104])
  | 1 => some (.tup [.str [110, 111, 110, 101]])
  | 2 => some (.tup [.str [101, 109, 112, 116, 121]])
  | _ => none
def gname : Nat → Str
  | 0 => "SIGNS"
  | 1 => "NONE"
  | 2 => "EMPTY"
  | _ => ""
/-- 0 word, 1 line -/
def fname : Nat → Str
  | 0 => "word"
  | 1 => "line"
  | _ => ""
/-! ### plain data -/
def resL (f : D → Option PyData) : List D → Option (List PyData)
  | [] => some []
  | d :: ds => match f d, resL f ds with
    | some a, some b => some (a :: b)
    | _, _ => none
/-- the datum as a whole, lists of the store looked up -/
def res (S : Sto) : Nat → D → Option PyData
  | 0, _ => none
  | _ + 1, .non => some .none
  | _ + 1, .bl b => some (.bool b)
  | _ + 1, .int i => some (.int i)
  | _ + 1, .str x => some (.str ⟨x.toArray⟩)
  | n + 1, .tup ds => (resL (res S n) ds).map .tuple
  | n + 1, .lst ds => (resL (res S n) ds).map .list
  | _ + 1, .scr _ => none
  | _ + 1, .dct _ _ => none
  | n + 1, .ref k => match S[k]? with
    | some (.lst ds) => (resL (res S n) ds).map .list
    | _ => none
/-- nesting at most 64, texts of signs that are signs -/
def fit (d : PyData) : Bool := d.canLay0 && decide (d.depth ≤ 64)
def look (S : Sto) (d : D) : Option PyData := match res S 70 d with
  | some p => if fit p = true then some p else none
  | none => none

/-- the items of a list, by value or in the store -/
def items (S : Sto) : D → Option (List D)
  | .lst ds => some ds
  | .ref k => match S[k]? with
    | some (.lst ds) => some ds
    | _ => none
  | _ => none
/-- the items of a list or tuple -/
def seqOf (S : Sto) : D → Option (List D)
  | .tup ds => some ds
  | .scr ns => some (ns.map D.int)
  | d => items S d

/-- two texts, alike or not -/
def eqStr (a b : D) : Option Bool := match a, b with
  | .str x, .str y => some (decide (x = y))
  | _, _ => none
def eqLook (S : Sto) (a b : D) : Option Bool := match look S a, look S b with
  | some x, some y => some (PyData.eqv x y)
  | _, _ => none
def eqD (S : Sto) (a b : D) : Option Bool := match eqStr a b with
  | some r => some r
  | none => eqLook S a b

/-- i as a place of a list of n -/
def placeOf (i : Int) (n : Nat) : Option Nat :=
  if 0 ≤ i then (if i < n then some i.toNat else none)
  else if -(n : Int) ≤ i then some (i + n).toNat else none
/-- a bound of a slice -/
def cutAt (n : Nat) (dflt : Nat) : Option Int → Nat
  | none => dflt
  | some i => if i < 0 then (i + (n : Int)).toNat else min i.toNat n
def cut {α : Type} (xs : List α) (lo hi : Option Int) : List α :=
  (xs.drop (cutAt xs.length 0 lo)).take (cutAt xs.length xs.length hi - cutAt xs.length 0 lo)

def small (i : Int) : Bool := decide (-(2 ^ 64 : Int) < i) && decide (i < 2 ^ 64)
def wide (i : Int) : Bool := decide (i.natAbs < 2 ^ 100000)

def binD (op : Bop) (a b : D) (S : Sto) : Out D :=
  match op, a, b with
  | .add, .int i, .int j => .ok (.int (i + j)) S
  | .sub, .int i, .int j => .ok (.int (i - j)) S
  | .mul, .int i, .int j => if small i || small j || (wide i && wide j) then .ok (.int (i * j)) S else .bad
  | .mod, .int i, .int j => if 0 < j then .ok (.int (i % j)) S else .bad
  | .fdiv, .int i, .int j => if 0 < j ∧ j < 1073741824 then .ok (.int (i / j)) S else .bad
  | .pow, .int i, .int j => if 0 ≤ j ∧ j ≤ 1000000 ∧ small i = true then .ok (.int (i ^ j.toNat)) S else .bad
  | .add, .str x, .str y => if x.length + y.length ≤ sz then .ok (.str (x ++ y)) S else .bad
  | .add, .tup x, .tup y => if x.length + y.length ≤ sz then .ok (.tup (x ++ y)) S else .bad
  | .mul, .str x, .int j => if 0 ≤ j ∧ j ≤ 100000 ∧ x.length * j.toNat ≤ sz then .ok (.str (List.replicate j.toNat x).flatten) S else .bad
  | .mul, .lst x, .int j => if 0 ≤ j ∧ j ≤ 100000 ∧ x.length * j.toNat ≤ sz then .ok (.lst (List.replicate j.toNat x).flatten) S else .bad
  | .add, a, b => match items S a, items S b with
    | some x, some y => if x.length + y.length ≤ sz then .ok (.lst (x ++ y)) S else .bad
    | _, _ => .bad
  | _, _, _ => .bad

/-- one sign in a text -/
def signIn (a b : D) : Option Bool := match a, b with
  | .str [c], .str y => some (decide (c ∈ y))
  | _, _ => none
/-- x is one of the items of a list or tuple -/
def inSeq (S : Sto) (a b : D) : Option Bool := match look S a, seqOf S b with
  | some x, some ds => match resL (look S) ds with
    | some ys => some (ys.any fun y => PyData.eqv y x)
    | none => none
  | _, _ => none
/-- a dict, by value or in the store -/
def dictOf (S : Sto) : D → Option (List DK × List D)
  | .dct ks ds => some (ks, ds)
  | .ref k => match S[k]? with
    | some (.dct ks ds) => some (ks, ds)
    | _ => none
  | _ => none
def inDict (S : Sto) (a b : D) : Option Bool := match dictOf S b, dkOf a with
  | some kd, some q => some (decide (q ∈ kd.1))
  | _, _ => none
def inD (S : Sto) (a b : D) : Option Bool := match signIn a b with
  | some r => some r
  | none => match inSeq S a b with
    | some r => some r
    | none => inDict S a b
def ltD (a b : D) : Option Bool := match a, b with
  | .int i, .int j => some (decide (i < j))
  | .str x, .str y => some (decide (x < y))
  | _, _ => none
def leD (a b : D) : Option Bool := match a, b with
  | .int i, .int j => some (decide (i ≤ j))
  | _, _ => none
def boolD (o : Option Bool) (S : Sto) : Out D := match o with
  | some r => .ok (.bl r) S
  | none => .bad
def cmpD (op : Cop) (a b : D) (S : Sto) : Out D :=
  match op with
  | .eq => boolD (eqD S a b) S
  | .ne => boolD ((eqD S a b).map not) S
  | .lt => boolD (ltD a b) S
  | .le => boolD (leD a b) S
  | .gt => boolD (match a, b with
    | .int i, .int j => some (decide (j < i))
    | _, _ => none) S
  | .ge => boolD (leD b a) S
  | .isin => boolD (inD S a b) S
  | .notin => boolD ((inD S a b).map not) S

def dsubD (a i : D) (S : Sto) : Out D := match dictOf S a, dkOf i with
  | some kd, some q => match kGet kd.1 kd.2 q with
    | some d => .ok d S
    | none => .bad
  | _, _ => .bad
def subD (a i : D) (S : Sto) : Out D :=
  match i with
  | .int i => match a with
    | .str x => if x.length ≤ sz then match placeOf i x.length with
        | some k => match x[k]? with
          | some c => .ok (.str [c]) S
          | none => .bad
        | none => .bad
      else .bad
    | a => match seqOf S a with
      | some ds => match placeOf i ds.length with
        | some k => match ds[k]? with
          | some d => .ok d S
          | none => .bad
        | none => .bad
      | none => dsubD a (.int i) S
  | i => dsubD a i S

def slcD (a : D) (l h : Option Int) (S : Sto) : Out D :=
  match a with
  | .str x => if x.length ≤ sz then .ok (.str (cut x l h)) S else .bad
  | .tup ds => .ok (.tup (cut ds l h)) S
  | a => match items S a with
    | some ds => .ok (.lst (cut ds l h)) S
    | none => .bad

def bools : List D → Option (List Bool)
  | [] => some []
  | .bl b :: r => match bools r with
    | some bs => some (b :: bs)
    | none => none
  | _ => none
def intsOf : List D → Option (List Int)
  | [] => some []
  | .int b :: r => match intsOf r with
    | some bs => some (b :: bs)
    | none => none
  | _ => none
def texts : List D → Option (List (List Nat))
  | [] => some []
  | .str b :: r => match texts r with
    | some bs => some (b :: bs)
    | none => none
  | _ => none

def joined (sep : List Nat) : List (List Nat) → List Nat
  | [] => []
  | [x] => x
  | x :: y :: r => x ++ (sep ++ joined sep (y :: r))

def bltD (b : Blt) (ds : List D) (S : Sto) : Out D :=
  match b, ds with
  | .len, [.str x] => if x.length ≤ sz then .ok (.int x.length) S else .bad
  | .len, [d] => match seqOf S d with
    | some xs => .ok (.int xs.length) S
    | none => .bad
  | .int, [.int i] => .ok (.int i) S
  | .int, [.bl b] => .ok (.int (if b then 1 else 0)) S
  | .str, [.str x] => .ok (.str x) S
  | .repr, [d] => match look S d with
    | some p => if p.showable = true ∧ p.shown.length ≤ sz then .ok (.str p.shown.cps.toList) S else .bad
    | none => .bad
  | .all, [d] => match items S d with
    | some ds => match bools ds with
      | some bs => .ok (.bl (bs.all id)) S
      | none => .bad
    | none => .bad
  | .any, [d] => match items S d with
    | some ds => match bools ds with
      | some bs => .ok (.bl (bs.any id)) S
      | none => .bad
    | none => .bad
  | .max, [.int i, .int j] => .ok (.int (if j > i then j else i)) S
  | .min, [.int i, .int j] => .ok (.int (if j < i then j else i)) S
  | .list, [d] => match seqOf S d with
    | some xs => .ok (.lst xs) S
    | none => .bad
  | .tuple, [d] => match seqOf S d with
    | some xs => .ok (.tup xs) S
    | none => .bad
  | _, _ => .bad

def mthD (m : Mt) (o : D) (ds : List D) (S : Sto) : Out D :=
  match m, o, ds with
  | .join, .str sep, [d] => match seqOf S d with
    | some xs => match texts xs with
      | some ts => if (ts.map List.length).sum + ts.length * sep.length ≤ sz then .ok (.str (joined sep ts)) S else .bad
      | none => .bad
    | none => .bad
  | .append, .ref k, [d] => match S[k]? with
    | some (.lst xs) => if xs.length < sz then .ok .non (S.set k (.lst (xs ++ [d]))) else .bad
    | _ => .bad
  | .count, o, [d] => match look S o, look S d with
    | some (.list ys), some x => .ok (.int ((ys.countP fun y => PyData.eqv y x : Nat) : Int)) S
    | _, _ => .bad
  | .index, o, [d] => match look S o, look S d with
    | some (.list ys), some x => match ys.findIdx? (fun y => PyData.eqv y x) with
      | some j => .ok (.int (j : Nat)) S
      | none => .bad
    | _, _ => .bad
  | _, _, _ => .bad

/-- the method is one of the value's kind -/
def recv (m : Mt) (S : Sto) (d : D) : Bool := match m with
  | .join => match d with
    | .str _ => true
    | _ => false
  | _ => match d with
    | .lst _ => true
    | .ref k => match S[k]? with
      | some (.lst _) => true
      | _ => false
    | _ => false
/-- the class c is, or lies under, the class t (all own errors stand right under LinesError) -/
def under (c t : Nat) : Bool := c == t || t == 0
def isTy (S : Sto) (t : Ty) (d : D) : Option Bool :=
  match d with
  | .ref k => match S[k]?, t with
    | some (.lst _), .lst => some true
    | some (.lst _), _ => some false
    | some (.exc c []), .own c' => if c < 15 ∧ c' < 15 then some (under c c') else none
    | some (.exc c []), .ve => if c < 15 then some true else none
    | _, _ => none
  | .dct _ _ => none
  | d => match t, d with
    | .str, .str _ => some true
    | .int, .int _ => some true
    | .int, .bl _ => some true
    | .bool, .bl _ => some true
    | .tup, .tup _ => some true
    | .lst, .lst _ => some true
    | .lst, .scr _ => some true
    | _, _ => some false
def isTys (S : Sto) (d : D) : List Ty → Option Bool
  | [] => some false
  | t :: r => match isTy S t d, isTys S d r with
    | some a, some b => some (a || b)
    | _, _ => none

def setAt (f : FS) (i : Nat) (d : D) : FS := f.set i (some d)
def setAll (f : FS) : List Nat → List D → Option FS
  | [], [] => some f
  | i :: is, d :: ds => setAll (setAt f i d) is ds
  | _, _ => none
def bindTg (S : Sto) (tg : Tg) (d : D) (f : FS) : Option FS :=
  match tg with
  | .name i => some (setAt f i d)
  | .tup is => match seqOf S d with
    | some ds => setAll f is ds
    | none => none
def wipe (f : FS) : List Nat → FS
  | [] => f
  | i :: is => (wipe f is).set i none

/-- what is walked: its items, and what must stand in the store meanwhile -/
structure Src where
  chk : List (Nat × Ob)
  xs : List D
def Chk (c : List (Nat × Ob)) (S : Sto) : Prop := ∀ p ∈ c, S[p.1]? = some p.2
def srcOf (S : Sto) : D → Option Src
  | .tup ds => some ⟨[], ds⟩
  | .lst ds => some ⟨[], ds⟩
  | .scr ns => some ⟨[], ns.map D.int⟩
  | .str x => if x.length ≤ sz then some ⟨[], x.map fun c => .str [c]⟩ else none
  | .ref k => match S[k]? with
    | some (.lst ds) => some ⟨[(k, .lst ds)], ds⟩
    | _ => none
  | _ => none
def upFrom (lo : Int) (n : Nat) : List D := (List.range n).map fun (i : Nat) => D.int (lo + (i : Int))
def rangeD (lo hi : Int) : Option Src :=
  if -(2 ^ 24 : Int) ≤ lo ∧ lo ≤ 2 ^ 24 ∧ -(2 ^ 24 : Int) ≤ hi ∧ hi ≤ 2 ^ 24 ∧ hi - lo ≤ 2 ^ 24 then some ⟨[], upFrom lo (hi - lo).toNat⟩ else none

/-! ### steps of the meaning -/
def isND (x : D) : Bool := match x with
  | .non => true
  | _ => false
def isBD (b : Bool) (x : D) (S : Sto) : Out D := match x with
  | .bl k => .ok (.bl (k == b)) S
  | _ => .bad
def notBD (b : Bool) (x : D) (S : Sto) : Out D := match x with
  | .bl k => .ok (.bl (!(k == b))) S
  | _ => .bad
def andD (tb : FS → Sto → Out D) (f : FS) (x : D) (S : Sto) : Out D := match x with
  | .bl true => tb f S
  | .bl false => .ok (.bl false) S
  | _ => .bad
def orD (tb : FS → Sto → Out D) (f : FS) (x : D) (S : Sto) : Out D := match x with
  | .bl true => .ok (.bl true) S
  | .bl false => tb f S
  | _ => .bad
def iteD (ta tb : FS → Sto → Out D) (f : FS) (x : D) (S : Sto) : Out D := match x with
  | .bl true => ta f S
  | .bl false => tb f S
  | _ => .bad
def notD (x : D) (S : Sto) : Out D := match x with
  | .bl k => .ok (.bl (!k)) S
  | _ => .bad
def negD (x : D) (S : Sto) : Out D := match x with
  | .int k => .ok (.int (-k)) S
  | _ => .bad
def newD (d : D) (S : Sto) : Out D := match d with
  | .lst ds => .ok (.ref S.length) (S ++ [.lst ds])
  | _ => .bad
/-- a + b of lists, as a list of the store -/
def catD (a b : D) (S : Sto) : Out D := match items S a, items S b with
  | some x, some y => if x.length + y.length ≤ sz then .ok (.ref S.length) (S ++ [.lst (x ++ y)]) else .bad
  | _, _ => .bad
def dnewD (S : Sto) : Out D := .ok (.ref S.length) (S ++ [.dct [] []])
def keysD (x : D) (S : Sto) : Out D := match x with
  | .ref k => match S[k]? with
    | some (.dct ks _) => .ok (.lst (ks.map dkD)) S
    | _ => .bad
  | _ => .bad
def keysV (f : FS) (i j : Nat) (S : Sto) : Out D := match f[i]? with
  | some (some d) => if j < f.length then keysD d S else .bad
  | _ => .bad
def dispD (ks : List DK) (ds : List D) (S : Sto) : Out D := if ks.length = ds.length ∧ ks.length ≤ 15 ∧ ks.Nodup then .ok (.dct ks ds) S else .bad
def dgetD (kd : List DK × List D) (e d : D) (S : Sto) : Out D := match dkOf e with
  | some q => .ok ((kGet kd.1 kd.2 q).getD d) S
  | none => .bad
def dgetX (te td : FS → Sto → Out D) (f : FS) (x : D) (S : Sto) : Out D := match dictOf S x with
  | some _ => (te f S).bind fun e S => (td f S).bind fun d S => match dictOf S x with
    | some kd => dgetD kd e d S
    | none => .bad
  | none => .bad
def starD (t : FS → Sto → Out (List D)) (f : FS) (d : D) (S : Sto) : Out (List D) := match seqOf S d with
  | some xs => (t f S).bind fun ds S => .ok (xs ++ ds) S
  | none => .bad
def mthX (m : Mt) (t : FS → Sto → Out (List D)) (f : FS) (x : D) (S : Sto) : Out D := if recv m S x = true then (t f S).bind fun ds S => mthD m x ds S else .bad
def bndD (d : D) (S : Sto) : Out (Option Int) := match d with
  | .int i => .ok (some i) S
  | _ => .bad
def isiD (ts : List Ty) (x : D) (S : Sto) : Out D := match isTys S x ts with
  | some b => .ok (.bl b) S
  | none => .bad
def valD (d : D) (S : Sto) : Out Src := match srcOf S d with
  | some s => .ok s S
  | none => .bad
def rng1D (x : D) (S : Sto) : Out Src := match x with
  | .int i => match rangeD 0 i with
    | some s => .ok s S
    | none => .bad
  | _ => .bad
def rng2D (x y : D) (S : Sto) : Out Src := match x, y with
  | .int i, .int j => match rangeD i j with
    | some s => .ok s S
    | none => .bad
  | _, _ => .bad
def stepD (tg : Tg) (tc : FS → Sto → Out (Option D)) (te : FS → Sto → Out D) (f : FS) (d : D) (S : Sto) : Out (Option D) := match bindTg S tg d f with
  | none => .bad
  | some f' => (tc f' S).bind fun b S => match b with
    | none => (te f' S).bind fun r S => .ok (some r) S
    | some (.bl true) => (te f' S).bind fun r S => .ok (some r) S
    | some (.bl false) => .ok none S
    | _ => .bad
noncomputable section
open Classical
/-- a comprehension's turns; step: none where the test says no -/
def compL (c : List (Nat × Ob)) (step : D → Sto → Out (Option D)) : List D → Sto → Out (List D)
  | [], S => if Chk c S then .ok [] S else .bad
  | d :: ds, S => if Chk c S then
      match step d S with
      | .ok o S1 => match compL c step ds S1 with
        | .ok r S2 => .ok (o.toList ++ r) S2
        | _ => .bad
      | _ => .bad
    else .bad

def compD (tg : Tg) (tc : FS → Sto → Out (Option D)) (te : FS → Sto → Out D) (own : List Nat) (f : FS) (src : Src) (S : Sto) : Out D := match compL src.chk (stepD tg tc te (wipe f own)) src.xs S with
  | .ok ds S => .ok (.lst ds) S
  | _ => .bad
mutual
def evE (c : Nat → List D → Sto → Out D) : E → FS → Sto → Out D
  | .var i, f, S => match f[i]? with
    | some (some d) => .ok d S
    | _ => .bad
  | .cst d, _, S => .ok d S
  | .glo x, _, S => match gloD x with
    | some d => .ok d S
    | none => .bad
  | .tup es, f, S => (evEs c es f S).bind fun ds S => if ds.length ≤ sz then .ok (.tup ds) S else .bad
  | .lst es, f, S => (evEs c es f S).bind fun ds S => if ds.length ≤ sz then .ok (.lst ds) S else .bad
  | .newL es, f, S => ((evEs c es f S).bind fun ds S => if ds.length ≤ sz then .ok (.lst ds) S else .bad).bind fun d S => newD d S
  | .newC es, f, S => ((evEs c es f S).bind fun ds S => bltD .list ds S).bind fun d S => newD d S
  | .bin op a b, f, S => (evE c a f S).bind fun x S => (evE c b f S).bind fun y S => binD op x y S
  | .cmp op a b, f, S => (evE c a f S).bind fun x S => (evE c b f S).bind fun y S => cmpD op x y S
  | .isN a, f, S => (evE c a f S).bind fun x S => .ok (.bl (isND x)) S
  | .notN a, f, S => (evE c a f S).bind fun x S => .ok (.bl (!isND x)) S
  | .isB b a, f, S => (evE c a f S).bind fun x S => isBD b x S
  | .notB b a, f, S => (evE c a f S).bind fun x S => notBD b x S
  | .and a b, f, S => (evE c a f S).bind fun x S => andD (evE c b) f x S
  | .or a b, f, S => (evE c a f S).bind fun x S => orD (evE c b) f x S
  | .not a, f, S => (evE c a f S).bind fun x S => notD x S
  | .neg a, f, S => (evE c a f S).bind fun x S => negD x S
  | .ite t a b, f, S => (evE c t f S).bind fun x S => iteD (evE c a) (evE c b) f x S
  | .sub a i, f, S => (evE c a f S).bind fun x S => (evE c i f S).bind fun y S => subD x y S
  | .slc a lo hi, f, S => (evE c a f S).bind fun x S => (evB c lo f S).bind fun l S => (evB c hi f S).bind fun h S => slcD x l h S
  | .call g es, f, S => (evEs c es f S).bind fun ds S => c g ds S
  | .blt b es, f, S => (evEs c es f S).bind fun ds S => bltD b ds S
  | .isi a ts, f, S => (evE c a f S).bind fun x S => isiD ts x S
  | .mth m o es, f, S => (evE c o f S).bind fun x S => mthX m (evEs c es) f x S
  | .fld n o, f, S => (evE c o f S).bind fun x S => match x with
    | .ref k => match S[k]? with
      | some (.ins _ fs) => match fs.lookup n with
        | some d => .ok d S
        | none => .bad
      | some (.exc _ fs) => match fs.lookup n with
        | some d => .ok d S
        | none => .bad
      | _ => .bad
    | _ => .bad
  | .comp elt tg it cond own, f, S => (evIt c it f S).bind fun src S => compD tg (evO c cond) (evE c elt) own f src S
  | .never, _, _ => .bad
  | .dnew, _, S => dnewD S
  | .keys i j, f, S => keysV f i j S
  | .disp ks vs, f, S => (evEs c vs f S).bind fun ds S => dispD ks ds S
  | .callD g es, f, S => (evEs c es f S).bind fun ds S => c g (ds ++ [.tup []]) S
  | .newP a b, f, S => (evE c a f S).bind fun x S => (evE c b f S).bind fun y S => catD x y S
  | .dget o e d, f, S => (evE c o f S).bind fun x S => dgetX (evE c e) (evE c d) f x S
def evEs (c : Nat → List D → Sto → Out D) : Es → FS → Sto → Out (List D)
  | .nil, _, S => .ok [] S
  | .cons e r, f, S => (evE c e f S).bind fun d S => (evEs c r f S).bind fun ds S => .ok (d :: ds) S
  | .star e r, f, S => (evE c e f S).bind fun d S => starD (evEs c r) f d S
def evO (c : Nat → List D → Sto → Out D) : Oe → FS → Sto → Out (Option D)
  | .no, _, S => .ok none S
  | .yes e, f, S => (evE c e f S).bind fun d S => .ok (some d) S
def evB (c : Nat → List D → Sto → Out D) : Oe → FS → Sto → Out (Option Int)
  | .no, _, S => .ok none S
  | .yes e, f, S => (evE c e f S).bind fun d S => bndD d S
def evIt (c : Nat → List D → Sto → Out D) : It → FS → Sto → Out Src
  | .val e, f, S => (evE c e f S).bind fun d S => valD d S
  | .range1 a, f, S => (evE c a f S).bind fun x S => rng1D x S
  | .range2 a b, f, S => (evE c a f S).bind fun x S => (evE c b f S).bind fun y S => rng2D x y S
end

/-- how a statement ends -/
inductive SO where
  | nx (f : FS) (S : Sto)
  | ret (d : D) (S : Sto)
  | brk (f : FS) (S : Sto)
  | ct (f : FS) (S : Sto)
  | exc (c : Nat) (fs : List (Nat × D)) (f : FS) (S : Sto)
  | bad

def Out.so {α : Type} (o : Out α) (f : FS) (k : α → Sto → SO) : SO := match o with
  | .ok a S => k a S
  | .exc c fs S => .exc c fs f S
  | .bad => .bad
@[simp] theorem Out.so_ok {α : Type} (a : α) (S : Sto) (f : FS) (k : α → Sto → SO) : (Out.ok a S).so f k = k a S := rfl
@[simp] theorem Out.so_exc {α : Type} (c : Nat) (fs : List (Nat × D)) (S : Sto) (f : FS) (k : α → Sto → SO) : (Out.exc c fs S : Out α).so f k = .exc c fs f S := rfl
@[simp] theorem Out.so_bad {α : Type} (f : FS) (k : α → Sto → SO) : (Out.bad : Out α).so f k = .bad := rfl

def forL (c : List (Nat × Ob)) (bd : D → FS → Sto → SO) : List D → FS → Sto → SO
  | [], f, S => if Chk c S then .nx f S else .bad
  | d :: ds, f, S => if Chk c S then match bd d f S with
      | .nx f S => forL c bd ds f S
      | .ct f S => forL c bd ds f S
      | .brk f S => .nx f S
      | .ret d S => .ret d S
      | .exc c fs f S => .exc c fs f S
      | .bad => .bad
    else .bad

def whileN (t : FS → Sto → Out D) (bd : FS → Sto → SO) : Nat → FS → Sto → Option SO
  | 0, _, _ => none
  | n + 1, f, S => match t f S with
    | .ok (.bl true) S => match bd f S with
      | .nx f S => whileN t bd n f S
      | .ct f S => whileN t bd n f S
      | .brk f S => some (.nx f S)
      | r => some r
    | .ok (.bl false) S => some (.nx f S)
    | .exc c fs S => some (.exc c fs f S)
    | _ => some .bad
def whl (t : FS → Sto → Out D) (bd : FS → Sto → SO) (f : FS) (S : Sto) : SO :=
  if h : ∃ n r, whileN t bd n f S = some r then Classical.choose (Classical.choose_spec h) else .bad

def putL (k : Nat) (xs : List D) (i d : D) (S : Sto) : Out Unit := match i with
  | .int i => match placeOf i xs.length with
    | some j => .ok () (S.set k (.lst (xs.set j d)))
    | none => .bad
  | _ => .bad
def putM (k : Nat) (ks : List DK) (ds : List D) (i d : D) (S : Sto) : Out Unit := match dkOf i with
  | some q => if ks.length < sz then .ok () (S.set k (.dct (kPutK ks q) (kPutD ks ds q d))) else .bad
  | none => .bad
def putD (o i d : D) (S : Sto) : Out Unit := match o with
  | .ref k => match S[k]? with
    | some (.lst xs) => putL k xs i d S
    | some (.dct ks ds) => putM k ks ds i d S
    | _ => .bad
  | _ => .bad

/-- o[i], ahead of o[i] op= e -/
def augGet (o i : D) (S : Sto) : Out D := match o, i with
  | .ref k, .int i => match items S (.ref k) with
    | some ds => match placeOf i ds.length with
      | some j => match ds[j]? with
        | some d => .ok d S
        | none => .bad
      | none => .bad
    | none => .bad
  | _, _ => .bad
/-- a op= b, of numbers -/
def augD (op : Bop) (a b : D) (S : Sto) : Out D := match op, a, b with
  | .add, .int i, .int j => .ok (.int (i + j)) S
  | .sub, .int i, .int j => .ok (.int (i - j)) S
  | _, _, _ => .bad
/-- an error's own fields: 13 Parted keeps a word, 14 NoText a line; the others are made of a constant text -/
def excFs (x : Nat) (ds : List D) : Option (List (Nat × D)) := match x, ds with
  | 13, [d] => some [(0, d)]
  | 14, [d] => some [(1, d)]
  | 13, _ => none
  | 14, _ => none
  | _, [] => some []
  | _, _ => none

def asgD (tg : Tg) (f : FS) (d : D) (S : Sto) : SO := match bindTg S tg d f with
  | some f => .nx f S
  | none => .bad
def parD (f : FS) (is : List Nat) (ds : List D) (S : Sto) : SO := match setAll f is ds with
  | some f => .nx f S
  | none => .bad
def thenS (u : FS → Sto → SO) (o : SO) : SO := match o with
  | .nx f S => u f S
  | o => o
def ifD (t u : FS → Sto → SO) (f : FS) (x : D) (S : Sto) : SO := match x with
  | .bl true => t f S
  | .bl false => u f S
  | _ => .bad
def forB (tg : Tg) (t : FS → Sto → SO) (d : D) (f : FS) (S : Sto) : SO := match bindTg S tg d f with
  | some f => t f S
  | none => .bad
def augN (op : Bop) (n : Nat) (t : FS → Sto → Out D) (f : FS) (S : Sto) : SO := match f[n]? with
  | some (some a) => (t f S).so f fun b S => (augD op a b S).so f fun d S => .nx (setAt f n d) S
  | _ => .bad
def tryD (x i v : Nat) (o : SO) : SO := match o with
  | .exc y fs f S => if under y x then .nx ((setAt f v (.ref S.length)).set i none) (S ++ [.exc y fs]) else .exc y fs f S
  | r => r
mutual
def evS (c : Nat → List D → Sto → Out D) : S → FS → Sto → SO
  | .asg tg e, f, S => (evE c e f S).so f fun d S => asgD tg f d S
  | .par is es, f, S => (evEs c es f S).so f fun ds S => parD f is ds S
  | .put o i e, f, S => (evE c e f S).so f fun d S => (evE c o f S).so f fun o S => (evE c i f S).so f fun i S => (putD o i d S).so f fun _ S => .nx f S
  | .aug i op e, f, S => augN op i (evE c e) f S
  | .augS o i op e, f, S => (evE c o f S).so f fun o S => (evE c i f S).so f fun i S => (augGet o i S).so f fun a S => (evE c e f S).so f fun b S => (augD op a b S).so f fun d S => (putD o i d S).so f fun _ S => .nx f S
  | .exp e, f, S => (evE c e f S).so f fun _ S => .nx f S
  | .ret e, f, S => (evE c e f S).so f fun d S => .ret d S
  | .ifs t a b, f, S => (evE c t f S).so f fun x S => ifD (evSs c a) (evSs c b) f x S
  | .whl t a, f, S => whl (evE c t) (evSs c a) f S
  | .fors tg it a, f, S => (evIt c it f S).so f fun src S => forL src.chk (forB tg (evSs c a)) src.xs f S
  | .brk, f, S => .brk f S
  | .cont, f, S => .ct f S
  | .raise x es, f, S => (evEs c es f S).so f fun ds S => match excFs x ds with
    | some fs => .exc x fs f S
    | none => .bad
  | .trys a x e v, f, S => tryD x e v (evSs c a f S)
  | .never, _, _ => .bad
def evSs (c : Nat → List D → Sto → Out D) : Ss → FS → Sto → SO
  | .nil, f, S => .nx f S
  | .cons s r, f, S => thenS (evSs c r) (evS c s f S)
end

/-- a def: how many parameters, how many slots, the body -/
structure Def where
  np : Nat
  ns : Nat
  body : Ss

/-- no list of the store within -/
def pureD : Nat → D → Prop
  | 0, _ => False
  | _ + 1, .ref _ => False
  | _ + 1, .scr _ => False
  | n + 1, .tup ds => ∀ d ∈ ds, pureD n d
  | n + 1, .lst ds => ∀ d ∈ ds, pureD n d
  | n + 1, .dct _ ds => ∀ d ∈ ds, pureD n d
  | _ + 1, _ => True
/-- what was made on the way is forgotten where nothing of it is handed back -/
def gc (S : Sto) (d : D) (S' : Sto) : Sto := if (∃ n, pureD n d) ∧ S <+: S' then S else S'

def start (d : Def) (ds : List D) : FS := ds.map some ++ List.replicate (d.ns - ds.length) none

def callN (Φ : Nat → Option Def) : Nat → Nat → List D → Sto → Out D
  | 0, _, _, _ => .bad
  | n + 1, g, ds, S => match Φ g with
    | none => .bad
    | some d => if ds.length = d.np ∧ d.np ≤ d.ns then match evSs (callN Φ n) d.body (start d ds) S with
        | .ret r S' => .ok r (gc S r S')
        | .nx _ S' => .ok .non (gc S .non S')
        | .exc c fs _ S' => .exc c fs S'
        | _ => .bad
      else .bad
end
end SL
set_option Elab.async false
set_option linter.all false
set_option maxRecDepth 100000
set_option maxHeartbeats 1000000
/-! A1: what data, a store, slots are in the abstract heap of the hand layer. -/
namespace SL
open PySem PySem.Spec L2

/-- a list that nobody may change: frozen, or one of the module's objects -/
def SqF (K : PySem.W.Frag) (H : Hp) (a : Addr) (xs : List V) : Prop :=
  (∃ o, H a = some (.frz o (.lst xs))) ∨
    ∃ (o : Obj) (its : Array Value) (n : Nat), K.lookup a = some o ∧ o.cls = .type "list" ∧ o.dict = none ∧ o.data = .seq its n ∧ its.size ≤ sizeLine ∧ Vals xs its.toList
theorem SqF.seq {K : PySem.W.Frag} {H : Hp} {a : Addr} {xs : List V} (h : SqF K H a xs) : SqL K H a xs := by
  rcases h with ⟨o, h⟩ | h
  · exact .inl (.inr ⟨o, h⟩)
  · exact .inr h

/-- where the objects of the store stand; where lists stand that are being made -/
structure Mu where
  l : List Addr
  r : List Addr
instance : Membership Addr Mu := ⟨fun μ a => a ∈ μ.l ∨ a ∈ μ.r⟩
theorem Mu.in_l {a : Addr} {μ : Mu} (h : a ∈ μ.l) : a ∈ μ := .inl h
theorem Mu.in_r {a : Addr} {μ : Mu} (h : a ∈ μ.r) : a ∈ μ := .inr h
def Mu.push (μ : Mu) (p : Addr) : Mu := ⟨μ.l ++ [p], μ.r⟩
def Mu.hold (μ : Mu) (p : Addr) : Mu := ⟨μ.l, p :: μ.r⟩
def keyOf : DK → Key
  | .int i => .inl i
  | .str x => .inr ⟨x.toArray⟩
theorem keyOf_inj {a b : DK} (h : keyOf a = keyOf b) : a = b := by
  cases a <;> cases b <;> simp [keyOf] at h <;> rw [h]
mutual
/-- the value v is the datum d -/
def Is (K : PySem.W.Frag) (μ : Mu) (H : Hp) : D → V → Prop
  | .non, v => v = .non
  | .bl b, v => v = .bl b
  | .int i, v => v = .int i
  | .str x, v => v = .str ⟨x.toArray⟩
  | .tup ds, v => ∃ a vs, v = .ref a ∧ SqT K H a vs ∧ IsL K μ H ds vs
  | .lst ds, v => ∃ a vs, v = .ref a ∧ a ∉ μ ∧ H a = some (.lst vs) ∧ IsL K μ H ds vs
  | .scr ns, v => ∃ a, v = .ref a ∧ SqF K H a (ns.map V.int)
  | .ref k, v => ∃ a, v = .ref a ∧ μ.l[k]? = some a
  | .dct ks ds, v => ∃ a kvs, v = .ref a ∧ a ∉ μ ∧ H a = some (.dK kvs) ∧ kvs.map (·.1) = ks.map keyOf ∧ IsL K μ H ds (kvs.map (·.2))
def IsL (K : PySem.W.Frag) (μ : Mu) (H : Hp) : List D → List V → Prop
  | [], vs => vs = []
  | d :: ds, vs => ∃ v r, vs = v :: r ∧ Is K μ H d v ∧ IsL K μ H ds r
end

/-- an exception object that is kept as a value -/
def ExT (cls : Value) (d : Option Addr) (a : Addr) : HO := .ext fun h => ∃ (oe : Obj) (vs : Array Value), h.get? a = some oe ∧ Zc cls d oe ∧ oe.data = .fields vs

/-- the fields of an object -/
def FsIs (K : PySem.W.Frag) (μ : Mu) (H : Hp) : List (Nat × D) → List (Str × V) → Prop
  | [], fv => fv = []
  | (n, d) :: fs, fv => ∃ v r, fv = (fname n, v) :: r ∧ Is K μ H d v ∧ FsIs K μ H fs r

/-- what is wanted of an error's own dict -/
def XIs (K : PySem.W.Frag) (μ : Mu) (H : Hp) (fs : List (Nat × D)) (d : Option Addr) : Prop :=
  match fs with
  | [] => d = none
  | fs => ∃ p fv, d = some p ∧ p ∉ μ ∧ H p = some (.xd fv) ∧ FsIs K μ H fs fv

def ObIs (K : PySem.W.Frag) (C : Nat → Addr) (μ : Mu) (H : Hp) (a : Addr) : Ob → Prop
  | .lst ds => ∃ vs, H a = some (.lst vs) ∧ IsL K μ H ds vs
  | .ins c fs => ∃ dx fv, H a = some (.ins (C c) dx fv) ∧ FsIs K μ H fs fv
  | .exc c fs => ∃ d, H a = some (ExT (.ref (C c)) d a) ∧ XIs K μ H fs d
  | .dct ks ds => ∃ kvs, H a = some (.dK kvs) ∧ kvs.map (·.1) = ks.map keyOf ∧ IsL K μ H ds (kvs.map (·.2))

structure KZ (K : PySem.W.Frag) (H : Hp) : Prop where
  hk : ∀ a o, K.lookup a = some o → H a = none
  hl : ∀ a xs, H a = some (.lst xs) → xs.length ≤ sizeLine
  ht : ∀ a xs, H a = some (.tup xs) → xs.length ≤ sizeLine
  fl : ∀ a o xs, H a = some (.frz o (.lst xs)) → xs.length ≤ sizeLine
  ft : ∀ a o xs, H a = some (.frz o (.tup xs)) → xs.length ≤ sizeLine
  hd : ∀ a kvs, H a = some (.dK kvs) → kvs.length ≤ sizeLine

/-- the store S stands in the heap H, its objects at μ -/
structure Rep0 (K : PySem.W.Frag) (C : Nat → Addr) (μ : Mu) (S : Sto) (H : Hp) : Prop where
  nd : μ.l.Nodup
  len : μ.l.length = S.length
  ob : ∀ (k : Nat) (a : Addr) (o : Ob), μ.l[k]? = some a → S[k]? = some o → ObIs K C μ H a o
  held : ∀ a ∈ μ.r, a ∉ μ.l ∧ ∃ xs, H a = some (.lst xs)

structure RepS (K : PySem.W.Frag) (C : Nat → Addr) (μ : Mu) (S : Sto) (H : Hp) : Prop extends Rep0 K C μ S H where
  kz : KZ K H
instance {K : PySem.W.Frag} {C : Nat → Addr} {μ : Mu} {S : Sto} {H : Hp} : Coe (RepS K C μ S H) (Rep0 K C μ S H) := ⟨RepS.toRep0⟩

structure Ext (μ : Mu) (H : Hp) (μ' : Mu) (H' : Hp) : Prop where
  pre : μ.l <+: μ'.l
  held : μ'.r = μ.r
  keep : ∀ b o, H b = some o → b ∉ μ.l → H' b = some o
  new : ∀ b ∈ μ'.l, b ∉ μ.l → H b = none

section
variable {K : PySem.W.Frag} {C : Nat → Addr} {μ μ' μ'' : Mu} {H H' H'' : Hp} {S S' : Sto}
theorem Ext.refl : Ext μ H μ H := ⟨List.prefix_refl _, rfl, fun _ _ h _ => h, fun _ h n => absurd h n⟩
theorem Ext.trans (a : Ext μ H μ' H') (b : Ext μ' H' μ'' H'') : Ext μ H μ'' H'' where
  pre := a.pre.trans b.pre
  held := b.held.trans a.held
  keep := fun x o h n => by
    refine b.keep x o (a.keep x o h n) fun m => ?_
    have z := a.new x m n
    rw [h] at z; cases z
  new := fun x m n => by
    by_cases hx : x ∈ μ'.l
    · exact a.new x hx n
    · cases q : H x with
      | none => rfl
      | some o =>
        have z := b.new x m hx
        rw [a.keep x o q n] at z; cases z
theorem Ext.kept (x : Ext μ H μ' H') {a : Addr} {o : HO} (h : H a = some o) (n : a ∉ μ) : H' a = some o := x.keep a o h fun m => n (.inl m)
theorem Ext.out (x : Ext μ H μ' H') {a : Addr} {o : HO} (h : H a = some o) (n : a ∉ μ) : a ∉ μ' := fun m => by
  rcases m with m | m
  · have z := x.new a m fun m => n (.inl m)
    rw [h] at z; cases z
  · rw [x.held] at m
    exact n (.inr m)

/-- something stands at each place of μ -/
theorem Rep0.obj (R : Rep0 K C μ S H) {a : Addr} (h : a ∈ μ.l) : ∃ (k : Nat) (o : Ob), μ.l[k]? = some a ∧ S[k]? = some o ∧ ObIs K C μ H a o := by
  obtain ⟨k, hk, e⟩ := List.getElem_of_mem h
  have hs : k < S.length := by rw [← R.len]; exact hk
  have e1 : μ.l[k]? = some a := by rw [List.getElem?_eq_getElem hk, e]
  have e2 : S[k]? = some S[k] := List.getElem?_eq_getElem hs
  exact ⟨k, _, e1, e2, R.ob k a _ e1 e2⟩
theorem ObIs.kinds {a : Addr} {o : Ob} (h : ObIs K C μ H a o) : ∃ u, H a = some u ∧ (∀ xs, u ≠ .tup xs) ∧ (∀ ob x, u ≠ .frz ob x) ∧ (∀ xs, u ≠ .xd xs) := by
  cases o with
  | lst ds =>
    obtain ⟨vs, e, _⟩ := h
    exact ⟨_, e, (by intro _ z; cases z), (by intro _ _ z; cases z), (by intro _ z; cases z)⟩
  | ins c fs =>
    obtain ⟨dx, fv, e, _⟩ := h
    exact ⟨_, e, (by intro _ z; cases z), (by intro _ _ z; cases z), (by intro _ z; cases z)⟩
  | exc c fs =>
    obtain ⟨d, e, _⟩ := h
    exact ⟨_, e, (by intro _ z; cases z), (by intro _ _ z; cases z), (by intro _ z; cases z)⟩
  | dct ks ds =>
    obtain ⟨kvs, e, _⟩ := h
    exact ⟨_, e, (by intro _ z; cases z), (by intro _ _ z; cases z), (by intro _ z; cases z)⟩
theorem Rep0.there (R : Rep0 K C μ S H) {a : Addr} (h : a ∈ μ) : ∃ u, H a = some u ∧ (∀ xs, u ≠ .tup xs) ∧ (∀ ob x, u ≠ .frz ob x) ∧ (∀ xs, u ≠ .xd xs) := by
  rcases h with h | h
  · obtain ⟨_, _, _, _, q⟩ := R.obj h
    exact q.kinds
  · obtain ⟨_, xs, e⟩ := R.held a h
    exact ⟨_, e, (by intro _ z; cases z), (by intro _ _ z; cases z), (by intro _ z; cases z)⟩
theorem Rep0.notin (R : Rep0 K C μ S H) {a : Addr} (h : H a = none) : a ∉ μ := fun m => by
  obtain ⟨u, e, _⟩ := R.there m
  rw [h] at e; cases e
theorem Rep0.notT (R : Rep0 K C μ S H) {a : Addr} {xs : List V} (h : H a = some (.tup xs)) : a ∉ μ := fun m => by
  obtain ⟨u, e, z, _⟩ := R.there m
  rw [h] at e; cases e
  exact z _ rfl
theorem Rep0.notF (R : Rep0 K C μ S H) {a : Addr} {o : Obj} {u : HO} (h : H a = some (.frz o u)) : a ∉ μ := fun m => by
  obtain ⟨w, e, _, z, _⟩ := R.there m
  rw [h] at e; cases e
  exact z _ _ rfl

/-- what was data stays so -/
structure Grow (μ : Mu) (H : Hp) (μ' : Mu) (H' : Hp) : Prop where
  pre : μ.l <+: μ'.l
  kept : ∀ a o, H a = some o → a ∉ μ → H' a = some o
  out : ∀ a o, H a = some o → a ∉ μ → a ∉ μ'
theorem Ext.grow (x : Ext μ H μ' H') : Grow μ H μ' H' := ⟨x.pre, fun _ _ h n => x.kept h n, fun _ _ h n => x.out h n⟩
theorem Grow.trans (a : Grow μ H μ' H') (b : Grow μ' H' μ'' H'') : Grow μ H μ'' H'' :=
  ⟨a.pre.trans b.pre, fun x o h n => b.kept x o (a.kept x o h n) (a.out x o h n), fun x o h n => b.out x o (a.kept x o h n) (a.out x o h n)⟩
theorem SqT.monoG {a : Addr} {xs : List V} (R : Rep0 K C μ S H) (x : Grow μ H μ' H') (h : SqT K H a xs) : SqT K H' a xs := by
  rcases h with (h | ⟨o, h⟩) | h
  · exact .inl (.inl (x.kept a _ h (R.notT h)))
  · exact .inl (.inr ⟨o, x.kept a _ h (R.notF h)⟩)
  · exact .inr h
theorem SqF.monoG {a : Addr} {xs : List V} (R : Rep0 K C μ S H) (x : Grow μ H μ' H') (h : SqF K H a xs) : SqF K H' a xs := by
  rcases h with ⟨o, h⟩ | h
  · exact .inl ⟨o, x.kept a _ h (R.notF h)⟩
  · exact .inr h
mutual
theorem Is.monoG (R : Rep0 K C μ S H) (x : Grow μ H μ' H') : ∀ (d : D) (v : V), Is K μ H d v → Is K μ' H' d v
  | .non, _, h => h
  | .bl _, _, h => h
  | .int _, _, h => h
  | .str _, _, h => h
  | .tup ds, v, h => by
    obtain ⟨a, vs, e, q, l⟩ := h
    exact ⟨a, vs, e, SqT.monoG R x q, IsL.monoG R x ds vs l⟩
  | .lst ds, v, h => by
    obtain ⟨a, vs, e, n, q, l⟩ := h
    exact ⟨a, vs, e, x.out a _ q n, x.kept a _ q n, IsL.monoG R x ds vs l⟩
  | .scr ns, v, h => by
    obtain ⟨a, e, q⟩ := h
    exact ⟨a, e, SqF.monoG R x q⟩
  | .ref k, v, h => by
    obtain ⟨a, e, q⟩ := h
    refine ⟨a, e, ?_⟩
    obtain ⟨t, ht⟩ := x.pre
    rw [← ht, List.getElem?_append_left (by exact (List.getElem?_eq_some_iff.mp q).1)]
    exact q
  | .dct ks ds, v, h => by
    obtain ⟨a, vs, e, n, q, kk, l⟩ := h
    exact ⟨a, vs, e, x.out a _ q n, x.kept a _ q n, kk, IsL.monoG R x ds _ l⟩
theorem IsL.monoG (R : Rep0 K C μ S H) (x : Grow μ H μ' H') : ∀ (ds : List D) (vs : List V), IsL K μ H ds vs → IsL K μ' H' ds vs
  | [], _, h => h
  | d :: ds, vs, h => by
    obtain ⟨v, r, e, i, l⟩ := h
    exact ⟨v, r, e, Is.monoG R x d v i, IsL.monoG R x ds r l⟩
end
theorem FsIs.monoG (R : Rep0 K C μ S H) (x : Grow μ H μ' H') : ∀ (fs : List (Nat × D)) (fv : List (Str × V)), FsIs K μ H fs fv → FsIs K μ' H' fs fv
  | [], _, h => h
  | (n, d) :: fs, fv, h => by
    obtain ⟨v, r, e, i, l⟩ := h
    exact ⟨v, r, e, Is.monoG R x d v i, FsIs.monoG R x fs r l⟩
theorem SqT.mono {a : Addr} {xs : List V} (R : Rep0 K C μ S H) (x : Ext μ H μ' H') (h : SqT K H a xs) : SqT K H' a xs := SqT.monoG R x.grow h
theorem SqF.mono {a : Addr} {xs : List V} (R : Rep0 K C μ S H) (x : Ext μ H μ' H') (h : SqF K H a xs) : SqF K H' a xs := SqF.monoG R x.grow h
theorem Is.mono (R : Rep0 K C μ S H) (x : Ext μ H μ' H') (d : D) (v : V) (h : Is K μ H d v) : Is K μ' H' d v := Is.monoG R x.grow d v h
theorem IsL.mono (R : Rep0 K C μ S H) (x : Ext μ H μ' H') (ds : List D) (vs : List V) (h : IsL K μ H ds vs) : IsL K μ' H' ds vs := IsL.monoG R x.grow ds vs h
theorem FsIs.mono (R : Rep0 K C μ S H) (x : Ext μ H μ' H') (fs : List (Nat × D)) (fv : List (Str × V)) (h : FsIs K μ H fs fv) : FsIs K μ' H' fs fv := FsIs.monoG R x.grow fs fv h
theorem IsL.length : ∀ {ds : List D} {vs : List V}, IsL K μ H ds vs → vs.length = ds.length
  | [], _, h => by rw [show _ = [] from h]; rfl
  | d :: ds, vs, h => by
    obtain ⟨v, r, e, i, l⟩ := h
    rw [e, List.length_cons, List.length_cons, IsL.length l]
theorem IsL.get : ∀ {ds : List D} {vs : List V} {k : Nat} {d : D}, IsL K μ H ds vs → ds[k]? = some d → ∃ v, vs[k]? = some v ∧ Is K μ H d v
  | [], _, _, _, _, e => by simp at e
  | d :: ds, vs, 0, d', h, e => by
    obtain ⟨v, r, rfl, i, l⟩ := h
    simp at e; subst e
    exact ⟨v, rfl, i⟩
  | d :: ds, vs, k + 1, d', h, e => by
    obtain ⟨v, r, rfl, i, l⟩ := h
    obtain ⟨u, e1, i1⟩ := IsL.get (k := k) l (by simpa using e)
    exact ⟨u, by simpa using e1, i1⟩
theorem IsL.append : ∀ {ds es : List D} {vs us : List V}, IsL K μ H ds vs → IsL K μ H es us → IsL K μ H (ds ++ es) (vs ++ us)
  | [], _, _, _, h, q => by rw [show _ = [] from h]; exact q
  | d :: ds, es, vs, us, h, q => by
    obtain ⟨v, r, rfl, i, l⟩ := h
    exact ⟨v, r ++ us, rfl, i, IsL.append l q⟩
theorem IsL.take : ∀ {ds : List D} {vs : List V} (n : Nat), IsL K μ H ds vs → IsL K μ H (ds.take n) (vs.take n)
  | _, _, 0, h => by simp; rfl
  | [], _, n + 1, h => by rw [show _ = [] from h]; rfl
  | d :: ds, vs, n + 1, h => by
    obtain ⟨v, r, rfl, i, l⟩ := h
    exact ⟨v, r.take n, rfl, i, IsL.take n l⟩
theorem IsL.drop : ∀ {ds : List D} {vs : List V} (n : Nat), IsL K μ H ds vs → IsL K μ H (ds.drop n) (vs.drop n)
  | _, _, 0, h => by simpa using h
  | [], _, n + 1, h => by rw [show _ = [] from h]; rfl
  | d :: ds, vs, n + 1, h => by
    obtain ⟨v, r, rfl, i, l⟩ := h
    exact IsL.drop n l
theorem IsL.set {d : D} {v : V} (q : Is K μ H d v) : ∀ {ds : List D} {vs : List V} (n : Nat), IsL K μ H ds vs → IsL K μ H (ds.set n d) (vs.set n v)
  | [], _, n, h => by rw [show _ = [] from h]; rfl
  | e :: ds, vs, 0, h => by
    obtain ⟨u, r, rfl, i, l⟩ := h
    exact ⟨v, r, rfl, q, l⟩
  | e :: ds, vs, n + 1, h => by
    obtain ⟨u, r, rfl, i, l⟩ := h
    exact ⟨u, r.set n v, rfl, i, IsL.set q n l⟩
theorem IsL.rep : ∀ {ds : List D} {vs : List V} (n : Nat), IsL K μ H ds vs → IsL K μ H (List.replicate n ds).flatten (List.replicate n vs).flatten
  | _, _, 0, h => by rfl
  | ds, vs, n + 1, h => by
    rw [List.replicate_succ, List.replicate_succ, List.flatten_cons, List.flatten_cons]
    exact h.append (IsL.rep n h)
theorem IsL.ints : ∀ {ns : List Int}, IsL K μ H (ns.map D.int) (ns.map V.int)
  | [] => rfl
  | n :: ns => ⟨_, _, rfl, rfl, IsL.ints⟩

/-! ### the store grows, changes -/
theorem ext_alloc {p : Addr} {o : HO} (R : Rep0 K C μ S H) (n : H p = none) : Ext μ H μ (upd H p o) :=
  ⟨List.prefix_refl _, rfl, fun b u h _ => by rw [upd_ne (ne_of_none h n)]; exact h, fun _ h m => absurd h m⟩
theorem ObIs.monoG {a : Addr} {o : Ob} (R : Rep0 K C μ S H) (x : Grow μ H μ' H') (h : ObIs K C μ H a o) (e : H' a = H a) : ObIs K C μ' H' a o := by
  cases o with
  | lst ds =>
    obtain ⟨vs, q, l⟩ := h
    exact ⟨vs, by rw [e]; exact q, l.monoG R x⟩
  | ins c fs =>
    obtain ⟨dx, fv, q, l⟩ := h
    exact ⟨dx, fv, by rw [e]; exact q, l.monoG R x⟩
  | exc c fs =>
    obtain ⟨d, q, l⟩ := h
    refine ⟨d, by rw [e]; exact q, ?_⟩
    cases fs with
    | nil => exact l
    | cons f fs =>
      obtain ⟨p, fv, e1, n, hp, l⟩ := l
      exact ⟨p, fv, e1, x.out p _ hp n, x.kept p _ hp n, l.monoG R x⟩
  | dct ks ds =>
    obtain ⟨kvs, q, kk, l⟩ := h
    exact ⟨kvs, by rw [e]; exact q, kk, l.monoG R x⟩
theorem ObIs.mono {a : Addr} {o : Ob} (R : Rep0 K C μ S H) (x : Ext μ H μ' H') (h : ObIs K C μ H a o) (e : H' a = H a) : ObIs K C μ' H' a o := h.monoG R x.grow e
/-- something new that is no object of the store -/
theorem Rep0.alloc {p : Addr} {o : HO} (R : Rep0 K C μ S H) (n : H p = none) (z : KZ K (upd H p o)) : RepS K C μ S (upd H p o) :=
  ⟨⟨R.nd, R.len, fun k a ob h1 h2 => (R.ob k a ob h1 h2).mono R (ext_alloc R n) (by
    obtain ⟨u, e, _⟩ := (R.ob k a ob h1 h2).kinds
    rw [upd_ne (ne_of_none e n)]), fun a ha => by
      obtain ⟨n1, xs, e⟩ := R.held a ha
      exact ⟨n1, xs, by rw [upd_ne (ne_of_none e n)]; exact e⟩⟩, z⟩
theorem ext_own {p : Addr} {o : HO} (n : H p = none) : Ext μ H (μ.push p) (upd H p o) :=
  ⟨List.prefix_append _ _, rfl, fun b u h _ => by rw [upd_ne (ne_of_none h n)]; exact h, fun b m k => by
    rcases List.mem_append.mp m with m | m
    · exact absurd m k
    · rw [List.mem_singleton.mp m]; exact n⟩
/-- a new object of the store -/
theorem Rep0.push {p : Addr} {o : HO} {b : Ob} (R : Rep0 K C μ S H) (n : H p = none) (z : KZ K (upd H p o)) (ob : ObIs K C (μ.push p) (upd H p o) p b) : RepS K C (μ.push p) (S ++ [b]) (upd H p o) := by
  refine ⟨⟨?_, by simp [Mu.push, R.len], fun k a c h1 h2 => ?_, fun a ha => ?_⟩, z⟩
  · show (μ.l ++ [p]).Nodup
    rw [List.nodup_append]
    refine ⟨R.nd, by simp, fun x hx y hy => ?_⟩
    rw [List.mem_singleton.mp hy]
    rintro rfl
    exact R.notin n (.inl hx)
  · have h1 : (μ.l ++ [p])[k]? = some a := h1
    by_cases hk : k < μ.l.length
    · rw [List.getElem?_append_left hk] at h1
      rw [List.getElem?_append_left (by rw [← R.len]; exact hk)] at h2
      refine (R.ob k a c h1 h2).mono R (ext_own n) ?_
      obtain ⟨u, e, _⟩ := (R.ob k a c h1 h2).kinds
      rw [upd_ne (ne_of_none e n)]
    · have hk' : k = μ.l.length := by
        have := (List.getElem?_eq_some_iff.mp h1).1
        simp at this; omega
      subst hk'
      rw [List.getElem?_append_right (Nat.le_refl _)] at h1
      rw [R.len, List.getElem?_append_right (Nat.le_refl _)] at h2
      simp at h1 h2
      subst h1 h2
      exact ob
  · obtain ⟨n1, xs, e⟩ := R.held a ha
    refine ⟨fun m => ?_, xs, by rw [upd_ne (ne_of_none e n)]; exact e⟩
    rcases List.mem_append.mp m with m | m
    · exact n1 m
    · rw [List.mem_singleton.mp m, n] at e; cases e
theorem ext_write {a : Addr} {o : HO} (m : a ∈ μ.l) : Ext μ H μ (upd H a o) :=
  ⟨List.prefix_refl _, rfl, fun b u h n => by rw [upd_ne (show b ≠ a from fun e => n (by rw [e]; exact m))]; exact h, fun _ h k => absurd h k⟩
/-- an object of the store is changed -/
theorem Rep0.write {k : Nat} {a : Addr} {o : HO} {b : Ob} (R : Rep0 K C μ S H) (h : μ.l[k]? = some a) (z : KZ K (upd H a o)) (ob : ObIs K C μ (upd H a o) a b) : RepS K C μ (S.set k b) (upd H a o) := by
  have hm : a ∈ μ.l := List.mem_of_getElem? h
  refine ⟨⟨R.nd, by rw [List.length_set]; exact R.len, fun j c d h1 h2 => ?_, fun c hc => ?_⟩, z⟩
  · by_cases e : j = k
    · subst e
      rw [h] at h1; cases h1
      rw [List.getElem?_set_self (by rw [← R.len]; exact (List.getElem?_eq_some_iff.mp h).1)] at h2
      cases h2
      exact ob
    · rw [List.getElem?_set_ne (Ne.symm e)] at h2
      refine (R.ob j c d h1 h2).mono R (ext_write hm) ?_
      rw [upd_ne]
      rintro rfl
      obtain ⟨q1, e1⟩ := List.getElem?_eq_some_iff.mp h
      obtain ⟨q2, e2⟩ := List.getElem?_eq_some_iff.mp h1
      exact e ((List.getElem_inj R.nd).mp (e2.trans e1.symm))
  · obtain ⟨n1, xs, e⟩ := R.held c hc
    exact ⟨n1, xs, by rw [upd_ne (show c ≠ a from fun z => n1 (by rw [z]; exact hm))]; exact e⟩
/-- the objects of the store by their numbers -/
theorem Rep0.at (R : Rep0 K C μ S H) {k : Nat} {o : Ob} {v : V} (h : Is K μ H (.ref k) v) (e : S[k]? = some o) : ∃ a, v = .ref a ∧ μ.l[k]? = some a ∧ ObIs K C μ H a o := by
  obtain ⟨a, rfl, q⟩ := h
  exact ⟨a, rfl, q, R.ob k a o q e⟩
/-- a list, by value or in the store -/
theorem Rep0.items (R : Rep0 K C μ S H) {d : D} {v : V} {ds : List D} (h : Is K μ H d v) (e : items S d = some ds) : ∃ a vs, v = .ref a ∧ H a = some (.lst vs) ∧ IsL K μ H ds vs := by
  cases d with
  | lst xs =>
    obtain ⟨a, vs, rfl, _, q, l⟩ := h
    cases e
    exact ⟨a, vs, rfl, q, l⟩
  | ref k =>
    cases q : S[k]? with
    | none => simp only [SL.items, q] at e; cases e
    | some o =>
      simp only [SL.items, q] at e
      cases o with
      | lst xs =>
        cases e
        obtain ⟨a, rfl, m, ob⟩ := R.at h q
        obtain ⟨vs, hv, l⟩ := ob
        exact ⟨a, vs, rfl, hv, l⟩
      | ins _ _ => cases e
      | exc _ _ => cases e
      | dct _ _ => cases e
  | _ => cases e
/-- .. or a tuple -/
theorem Rep0.seq (R : Rep0 K C μ S H) {d : D} {v : V} {ds : List D} (h : Is K μ H d v) (e : seqOf S d = some ds) : ∃ a vs, v = .ref a ∧ (SqL K H a vs ∨ SqT K H a vs) ∧ IsL K μ H ds vs := by
  cases d with
  | tup xs =>
    obtain ⟨a, vs, rfl, q, l⟩ := h
    cases e
    exact ⟨a, vs, rfl, .inr q, l⟩
  | scr ns =>
    obtain ⟨a, rfl, q⟩ := h
    cases e
    exact ⟨a, _, rfl, .inl q.seq, IsL.ints⟩
  | lst xs =>
    obtain ⟨a, vs, e1, e2, l⟩ := R.items h e
    exact ⟨a, vs, e1, .inl (.inl (.inl e2)), l⟩
  | ref k =>
    obtain ⟨a, vs, e1, e2, l⟩ := R.items h e
    exact ⟨a, vs, e1, .inl (.inl (.inl e2)), l⟩
  | _ => cases e
end

/-! ### what the layer's invariant says of every heap -/
section
variable {X : Cx} {pins : List (Addr × Obj)} {σ : St} {H : Hp} {s : Shared}
theorem kz_of (I : Inv X pins σ H s) : KZ X.K H where
  hk := fun a o e => (I.bs a o (I.ok.mod.kin a o e)).2
  hl := fun a xs e => (I.hok a _ e).1
  ht := fun a xs e => (I.hok a _ e).1
  fl := fun a o xs e => (I.hok a _ e).2.1
  ft := fun a o xs e => (I.hok a _ e).2.1
  hd := fun a kvs e => (I.hok a _ e).1
end
/-- .. so it may be used of every result -/
def kno (K : PySem.W.Frag) (Q : VK) : VK := fun v H => KZ K H → Q v H
section
variable {X : Cx}
theorem ep_kno {pins : List (Addr × Obj)} {σ : St} {Q : VK} {u : Value} {s : Shared} (h : EP X pins σ (kno X.K Q) u s) : EP X pins σ Q u s := by
  obtain ⟨v, H, I, r, q⟩ := h
  exact ⟨v, H, I, r, q (kz_of I)⟩
theorem PE.kno {e : Expr} {t : TE} (h : PE X e t) : PE X e (fun σ H Q => t σ H (SL.kno X.K Q)) :=
  ⟨fun pins s σ H Q I q => thn (h.run pins s σ H _ I q) fun u s' z => ep_kno z⟩
theorem PE.imp {e : Expr} {t t' : TE} (h : PE X e t) (w : ∀ σ H Q, t' σ H Q → t σ H Q) : PE X e t' :=
  ⟨fun pins s σ H Q I q => h.run pins s σ H Q I (w σ H Q q)⟩
theorem PT.imp {e : Expr} {t t' : TT} (h : PT X e t) (w : ∀ σ H Q, t' σ H Q → t σ H Q) : PT X e t' :=
  ⟨fun pins s σ H Q I q => h.run pins s σ H Q I (w σ H Q q)⟩
theorem PW.imp {e : Expr} {t t' : TT} (h : PW X e t) (w : ∀ σ H Q, t' σ H Q → t σ H Q) : PW X e t' :=
  ⟨fun wh pins s σ H Q I q => h.run wh pins s σ H Q I (w σ H Q q)⟩
theorem PA.imp {es : List Expr} {t t' : TA} (h : PA X es t) (w : ∀ σ H Q, t' σ H Q → t σ H Q) : PA X es t' :=
  ⟨fun p pins s σ H Q I q => h.run p pins s σ H Q I (w σ H Q q)⟩
theorem PS.imp {e : Stmt} {t t' : TS} (h : PS X e t) (w : ∀ D σ H, t' D σ H → t D σ H) : PS X e t' :=
  ⟨fun pins s σ H D I q => h.run pins s σ H D I (w D σ H q)⟩
theorem PSs.imp {e : List Stmt} {t t' : TS} (h : PSs X e t) (w : ∀ D σ H, t' D σ H → t D σ H) : PSs X e t' :=
  ⟨fun pins s σ H D I q => h.run pins s σ H D I (w D σ H q)⟩
theorem kno_op {f : Value → Value → Sem Value} {r : R2} (h : OpR X f r) : OpR X f (fun x y H Q => r x y H (SL.kno X.K Q)) :=
  fun pins s σ H x y v u Q I rx ry q => thn (h pins s σ H x y v u _ I rx ry q) fun u s' z => ep_kno z
theorem kno_call {f : Value} {r : List V → Hp → VK → Prop} (h : CallR X f r) : CallR X f (fun xs H Q => r xs H (SL.kno X.K Q)) :=
  fun pins s σ H xs us Q I rs q => thn (h pins s σ H xs us _ I rs q) fun u s' z => ep_kno z
theorem kno_mt {id : String} {r : V → List V → Hp → VK → Prop} (h : MtR X id r) : MtR X id (fun x xs H Q => r x xs H (SL.kno X.K Q)) :=
  fun pins s σ H x xs v us Q I rx rs q => thn (h pins s σ H x xs v us _ I rx rs q) fun u s' z => ep_kno z
theorem kno_sl {r : V → Option Int → Option Int → Hp → VK → Prop} (h : L2.SlR X r) : L2.SlR X (fun x lo hi H Q => r x lo hi H (SL.kno X.K Q)) :=
  fun pins s σ H x v vl vu lo hi sl Q I rx hs pl pu q => by
    obtain ⟨T, id, h1, h2, h3⟩ := h pins s σ H x v vl vu lo hi sl _ I rx hs pl pu q
    exact ⟨T, id, h1, h2, thn h3 fun u s' z => ep_kno z⟩
end

/-! ### slots -/
structure Sl (K : PySem.W.Frag) (μ : Mu) (H : Hp) (f : FS) (σ : St) : Prop where
  len : f.length = σ.length
  at_ : ∀ (i : Nat) (d : D), f[i]? = some (some d) → ∃ v, σ[i]? = some (some v) ∧ Is K μ H d v
section
variable {K : PySem.W.Frag} {C : Nat → Addr} {μ μ' : Mu} {H H' : Hp} {S : Sto} {f : FS} {σ : St}
theorem Sl.monoG (R : Rep0 K C μ S H) (x : Grow μ H μ' H') (h : Sl K μ H f σ) : Sl K μ' H' f σ :=
  ⟨h.len, fun i d e => by
    obtain ⟨v, e1, q⟩ := h.at_ i d e
    exact ⟨v, e1, q.monoG R x⟩⟩
theorem Sl.mono (R : Rep0 K C μ S H) (x : Ext μ H μ' H') (h : Sl K μ H f σ) : Sl K μ' H' f σ :=
  ⟨h.len, fun i d e => by
    obtain ⟨v, e1, q⟩ := h.at_ i d e
    exact ⟨v, e1, q.mono R x⟩⟩
theorem Sl.set {i : Nat} {d : D} {v : V} (h : Sl K μ H f σ) (q : Is K μ H d v) : Sl K μ H (setAt f i d) (σ.set i (some v)) :=
  ⟨by unfold setAt; rw [List.length_set, List.length_set, h.len], fun j e z => by
    unfold setAt at z
    by_cases hj : j = i
    · subst hj
      by_cases hl : j < f.length
      · rw [List.getElem?_set_self hl] at z
        cases z
        exact ⟨v, by rw [List.getElem?_set_self (by rw [← h.len]; exact hl)], q⟩
      · rw [List.getElem?_eq_none (by simpa using hl)] at z; cases z
    · rw [List.getElem?_set_ne (Ne.symm hj)] at z ⊢
      exact h.at_ j e z⟩
theorem Sl.wipe (h : Sl K μ H f σ) : ∀ is : List Nat, Sl K μ H (SL.wipe f is) (L2.wipe σ is)
  | [] => h
  | i :: is => by
    have q := Sl.wipe h is
    refine ⟨by unfold SL.wipe L2.wipe; rw [List.length_set, List.length_set, q.len], fun j d e => ?_⟩
    unfold SL.wipe at e
    unfold L2.wipe
    by_cases hj : j = i
    · subst hj
      by_cases hl : j < (SL.wipe f is).length
      · rw [List.getElem?_set_self hl] at e; cases e
      · rw [List.getElem?_eq_none (by simpa using hl)] at e; cases e
    · rw [List.getElem?_set_ne (Ne.symm hj)] at e ⊢
      exact q.at_ j d e
theorem Sl.unset (h : Sl K μ H f σ) (i : Nat) : Sl K μ H (f.set i none) (σ.set i none) := Sl.wipe h [i]
end

/-! ### lifting -/
/-- the frame of a reading: the module's part, the classes, what is wanted of an error -/
structure Gx where
  K : PySem.W.Frag
  C : Nat → Addr
  W : WX

/-- how a pure end reads at the heap -/
def GoodE (G : Gx) (σ : St) (μ : Mu) (H : Hp) (Q : VK) : Out D → Prop
  | .ok d S' => ∀ v H' μ', Ext μ H μ' H' → RepS G.K G.C μ' S' H' → Is G.K μ' H' d v → Q v H'
  | .exc c fs S' => ∀ H' μ' dd, Ext μ H μ' H' → RepS G.K G.C μ' S' H' → XIs G.K μ' H' fs dd → G.W (.ref (G.C c)) dd σ H'
  | .bad => False
def GoodA (G : Gx) (σ : St) (μ : Mu) (H : Hp) (Q : List V → Hp → Prop) : Out (List D) → Prop
  | .ok d S' => ∀ v H' μ', Ext μ H μ' H' → RepS G.K G.C μ' S' H' → IsL G.K μ' H' d v → Q v H'
  | .exc c fs S' => ∀ H' μ' dd, Ext μ H μ' H' → RepS G.K G.C μ' S' H' → XIs G.K μ' H' fs dd → G.W (.ref (G.C c)) dd σ H'
  | .bad => False
def GoodT (G : Gx) (σ : St) (μ : Mu) (H : Hp) (Q : Bool → Hp → Prop) : Out D → Prop
  | .ok (.bl b) S' => ∀ H' μ', Ext μ H μ' H' → RepS G.K G.C μ' S' H' → Q b H'
  | .exc c fs S' => ∀ H' μ' dd, Ext μ H μ' H' → RepS G.K G.C μ' S' H' → XIs G.K μ' H' fs dd → G.W (.ref (G.C c)) dd σ H'
  | _ => False
/-- a new list -/
def GoodN (G : Gx) (σ : St) (μ : Mu) (H : Hp) (Q : VK) : Out D → Prop
  | .ok (.lst ds) S' => ∀ vs p H' μ', Ext μ H μ' H' → RepS G.K G.C μ' S' H' → IsL G.K μ' H' ds vs → H' p = none → KZ G.K (upd H' p (.lst vs)) → Q (.ref p) (upd H' p (.lst vs))
  | .exc c fs S' => ∀ H' μ' dd, Ext μ H μ' H' → RepS G.K G.C μ' S' H' → XIs G.K μ' H' fs dd → G.W (.ref (G.C c)) dd σ H'
  | _ => False
def lift (G : Gx) (t : FS → Sto → Out D) : TE := fun σ H Q => ∃ μ f S, RepS G.K G.C μ S H ∧ Sl G.K μ H f σ ∧ GoodE G σ μ H Q (t f S)
def liftA (G : Gx) (t : FS → Sto → Out (List D)) : TA := fun σ H Q => ∃ μ f S, RepS G.K G.C μ S H ∧ Sl G.K μ H f σ ∧ GoodA G σ μ H Q (t f S)
def liftT (G : Gx) (t : FS → Sto → Out D) : TT := fun σ H Q => ∃ μ f S, RepS G.K G.C μ S H ∧ Sl G.K μ H f σ ∧ GoodT G σ μ H Q (t f S)
def liftN (G : Gx) (t : FS → Sto → Out D) : TE := fun σ H Q => ∃ μ f S, RepS G.K G.C μ S H ∧ Sl G.K μ H f σ ∧ GoodN G σ μ H Q (t f S)

section
variable {G : Gx} {σ : St} {μ μ' : Mu} {H H' : Hp}
theorem GoodE.mono {Q : VK} {o : Out D} (x : Ext μ H μ' H') (h : GoodE G σ μ H Q o) : GoodE G σ μ' H' Q o := by
  cases o with
  | ok d S => exact fun v H2 μ2 x2 => h v H2 μ2 (x.trans x2)
  | exc c fs S => exact fun H2 μ2 dd x2 => h H2 μ2 dd (x.trans x2)
  | bad => exact h
theorem GoodA.mono {Q : List V → Hp → Prop} {o : Out (List D)} (x : Ext μ H μ' H') (h : GoodA G σ μ H Q o) : GoodA G σ μ' H' Q o := by
  cases o with
  | ok d S => exact fun v H2 μ2 x2 => h v H2 μ2 (x.trans x2)
  | exc c fs S => exact fun H2 μ2 dd x2 => h H2 μ2 dd (x.trans x2)
  | bad => exact h
theorem GoodT.mono {Q : Bool → Hp → Prop} {o : Out D} (x : Ext μ H μ' H') (h : GoodT G σ μ H Q o) : GoodT G σ μ' H' Q o := by
  cases o with
  | ok d S =>
    cases d with
    | bl b => exact fun H2 μ2 x2 => h H2 μ2 (x.trans x2)
    | _ => exact h
  | exc c fs S => exact fun H2 μ2 dd x2 => h H2 μ2 dd (x.trans x2)
  | bad => exact h
theorem GoodN.mono {Q : VK} {o : Out D} (x : Ext μ H μ' H') (h : GoodN G σ μ H Q o) : GoodN G σ μ' H' Q o := by
  cases o with
  | ok d S =>
    cases d with
    | lst b => exact fun vs p H2 μ2 x2 => h vs p H2 μ2 (x.trans x2)
    | _ => exact h
  | exc c fs S => exact fun H2 μ2 dd x2 => h H2 μ2 dd (x.trans x2)
  | bad => exact h
/-- one part, then the rest -/
theorem lift_bind {t : FS → Sto → Out D} {Q : VK} {S : Sto} {f : FS} (R : RepS G.K G.C μ S H) (L : Sl G.K μ H f σ) {β : Type} {k : D → Sto → Out β} {Good : Out β → Prop}
    (h : Good ((t f S).bind k)) (hx : ∀ c fs S', Good (.exc c fs S') → ∀ H' μ' dd, Ext μ H μ' H' → RepS G.K G.C μ' S' H' → XIs G.K μ' H' fs dd → G.W (.ref (G.C c)) dd σ H') (hb : ¬ Good .bad)
    (go : ∀ d S' v H' μ', t f S = .ok d S' → Ext μ H μ' H' → RepS G.K G.C μ' S' H' → Is G.K μ' H' d v → Good (k d S') → Q v H') : lift G t σ H Q := by
  refine ⟨μ, f, S, R, L, ?_⟩
  cases e : t f S with
  | ok d S' =>
    rw [e] at h
    exact fun v H' μ' x R' i => go d S' v H' μ' e x R' i h
  | exc c fs S' =>
    rw [e] at h
    exact hx c fs S' h
  | bad =>
    rw [e] at h
    exact hb h
end
end SL
set_option Elab.async false
set_option linter.all false
set_option maxRecDepth 100000
set_option maxHeartbeats 1000000
/-! A2: operators, built-in functions and methods upon data. -/
namespace SL
open PySem PySem.Spec L2

/-- a pure end without an error -/
def GoodV (K : PySem.W.Frag) (C : Nat → Addr) (μ : Mu) (H : Hp) (Q : VK) : Out D → Prop
  | .ok d S' => ∀ v H' μ', Ext μ H μ' H' → RepS K C μ' S' H' → Is K μ' H' d v → Q v H'
  | _ => False
def rD2 (K : PySem.W.Frag) (C : Nat → Addr) (g : D → D → Sto → Out D) : R2 := fun x y H Q => ∃ μ S d e, RepS K C μ S H ∧ Is K μ H d x ∧ Is K μ H e y ∧ GoodV K C μ H Q (g d e S)
def rDL (K : PySem.W.Frag) (C : Nat → Addr) (g : List D → Sto → Out D) : List V → Hp → VK → Prop := fun xs H Q => ∃ μ S ds, RepS K C μ S H ∧ IsL K μ H ds xs ∧ GoodV K C μ H Q (g ds S)
def rDM (K : PySem.W.Frag) (C : Nat → Addr) (g : D → List D → Sto → Out D) : V → List V → Hp → VK → Prop := fun x xs H Q => ∃ μ S d ds, RepS K C μ S H ∧ Is K μ H d x ∧ IsL K μ H ds xs ∧ GoodV K C μ H Q (g d ds S)

section
variable {K : PySem.W.Frag} {C : Nat → Addr} {μ μ' : Mu} {H H' : Hp} {S : Sto}
theorem GoodV.here {Q : VK} {d : D} {v : V} (h : GoodV K C μ H Q (.ok d S)) (R : RepS K C μ S H) (i : Is K μ H d v) : Q v H := h v H μ Ext.refl R i
/-- a new list, by value -/
theorem GoodV.newL {Q : VK} {ds : List D} {vs : List V} {p : Addr} (h : GoodV K C μ H Q (.ok (.lst ds) S)) (R : RepS K C μ S H) (i : IsL K μ H ds vs) (n : H p = none) : kno K Q (.ref p) (upd H p (.lst vs)) := fun z =>
  h _ _ _ (ext_alloc R.toRep0 n) (R.alloc n z) ⟨p, vs, rfl, R.notin n, upd_same, i.mono R.toRep0 (ext_alloc R.toRep0 n)⟩
theorem GoodV.newT {Q : VK} {ds : List D} {vs : List V} {p : Addr} (h : GoodV K C μ H Q (.ok (.tup ds) S)) (R : RepS K C μ S H) (i : IsL K μ H ds vs) (n : H p = none) : kno K Q (.ref p) (upd H p (.tup vs)) := fun z =>
  h _ _ _ (ext_alloc R.toRep0 n) (R.alloc n z) ⟨p, vs, rfl, .inl (.inl upd_same), i.mono R.toRep0 (ext_alloc R.toRep0 n)⟩
end

theorem szl : sizeLine = sz := sizeLine_eq

theorem small_ok {i : Int} (h : small i = true) : -(2 ^ 64) < i ∧ i < 2 ^ 64 := by
  unfold small at h
  rw [Bool.and_eq_true] at h
  exact ⟨of_decide_eq_true h.1, of_decide_eq_true h.2⟩
theorem wide_ok {i : Int} (h : wide i = true) : i.natAbs < 2 ^ 100000 := of_decide_eq_true h

theorem reps_flat (a : List Nat) : ∀ n : Nat, ∀ acc : List Nat, (List.replicate n a.toArray).foldl (· ++ ·) acc.toArray = (acc ++ (List.replicate n a).flatten).toArray
  | 0, acc => by simp
  | n + 1, acc => by
    rw [List.replicate_succ, List.foldl_cons, List.replicate_succ, List.flatten_cons, ← List.append_assoc]
    have e : acc.toArray ++ a.toArray = (acc ++ a).toArray := by simp
    rw [e]
    exact reps_flat a n (acc ++ a)
theorem txt_mul (a : List Nat) {j : Int} (h : 0 ≤ j) : Txt.mul ⟨a.toArray⟩ j = ⟨((List.replicate j.toNat a).flatten).toArray⟩ := by
  unfold Txt.mul
  split
  · have e : j.toNat = 0 := by omega
    rw [e]
    rfl
  · split
    · rename_i h1 h2
      rw [Bool.or_eq_true] at h2
      rcases h2 with h2 | h2
      · have e : j = 1 := by simpa using h2
        subst e
        simp
      · have e : a = [] := by simpa [Str.length] using h2
        subst e
        simp
    · have e := reps_flat a j.toNat []
      simp only [List.nil_append] at e
      rw [← e]
theorem mul_fits {a : List Nat} {j : Int} (h1 : 0 ≤ j) (h2 : j ≤ 100000) (h3 : a.length * j.toNat ≤ sz) : MulOk ⟨a.toArray⟩ j := by
  refine ⟨by simp; omega, fun h4 _ => ?_, fun _ _ => ?_⟩
  · have e : ((⟨a.toArray⟩ : Str).length : Int) = (a.length : Int) := by simp [Str.length]
    rw [e, gt_iff_lt, Int.not_lt, Int.le_ediv_iff_mul_le (by omega)]
    have : (a.length : Int) * j = ((a.length * j.toNat : Nat) : Int) := by
      rw [Int.natCast_mul, Int.toNat_of_nonneg h1]
    rw [this]
    have : sz = 16777216 := rfl
    omega
  · have e : (⟨a.toArray⟩ : Str).length = a.length := by simp [Str.length]
    rw [e]
    unfold Builtin.Str.tooLong
    rw [szl]
    simpa using h3
section
variable {X : Cx} {C : Nat → Addr}
theorem cat_ok {a b : D} {Q : VK} {μ : Mu} {S : Sto} {H : Hp} {x y : V} {v u : Value} {pins : List (Addr × Obj)} {s : Shared} {σ : St} (R : RepS X.K C μ S H) (ia : Is X.K μ H a x) (ib : Is X.K μ H b y) (I : Inv X pins σ H s) (rx : RelV x v) (ry : RelV y u)
    (g : GoodV X.K C μ H Q (match items S a, items S b with
      | some x, some y => if x.length + y.length ≤ sz then .ok (.lst (x ++ y)) S else .bad
      | _, _ => .bad)) : wpAny (model X.prog X.w) X.A (binaryOp .Add v u) (EP X pins σ Q) X.xe s := by
  cases e1 : items S a with
  | none => rw [e1] at g; exact g.elim
  | some xs =>
    cases e2 : items S b with
    | none => rw [e1, e2] at g; exact g.elim
    | some ys =>
      rw [e1, e2] at g
      dsimp only at g
      obtain ⟨p, vs, rfl, hp, l1⟩ := R.items ia e1
      obtain ⟨q, us, rfl, hq, l2⟩ := R.items ib e2
      split at g
      · rename_i hl
        exact kno_op op_cat pins s σ H _ _ v u Q I rx ry ⟨p, q, vs, us, rfl, rfl, hp, hq, by rw [l1.length, l2.length, szl]; exact hl, fun r nr => g.newL R (l1.append l2) nr⟩
      · exact g.elim
theorem op_catD : OpR X (binaryOp .Add) (rD2 X.K C catD) := by
  intro pins s σ H x y v u Q I rx ry h
  obtain ⟨μ, S, a, b, R, ia, ib, g⟩ := h
  unfold catD at g
  cases e1 : items S a with
  | none => rw [e1] at g; exact g.elim
  | some xs =>
    cases e2 : items S b with
    | none => rw [e1, e2] at g; exact g.elim
    | some ys =>
      rw [e1, e2] at g
      dsimp only at g
      obtain ⟨p, vs, rfl, hp, l1⟩ := R.items ia e1
      obtain ⟨q, us, rfl, hq, l2⟩ := R.items ib e2
      split at g
      · rename_i hl
        refine kno_op op_cat pins s σ H _ _ v u Q I rx ry ⟨p, q, vs, us, rfl, rfl, hp, hq, by rw [l1.length, l2.length, szl]; exact hl, fun r nr z => ?_⟩
        refine g _ _ _ (ext_own nr) (R.push nr z ⟨vs ++ us, upd_same, (l1.append l2).mono R.toRep0 (ext_own nr)⟩) ⟨r, rfl, ?_⟩
        show (μ.l ++ [r])[S.length]? = some r
        rw [← R.len, List.getElem?_append_right (Nat.le_refl _)]
        simp
      · exact g.elim
theorem op_addD : OpR X (binaryOp .Add) (rD2 X.K C (binD .add)) := by
  intro pins s σ H x y v u Q I rx ry h
  obtain ⟨μ, S, d, e, R, ia, ib, g⟩ := h
  cases d with
  | int i =>
    cases e with
    | int j =>
      cases ia; cases ib
      exact op_add pins s σ H _ _ v u Q I rx ry ⟨i, j, rfl, rfl, g.here R rfl⟩
    | _ => exact cat_ok R ia ib I rx ry g
  | str a =>
    cases e with
    | str b =>
      cases ia; cases ib
      simp only [binD] at g
      split at g
      · rename_i hl
        refine op_add_str pins s σ H _ _ v u Q I rx ry ⟨_, _, rfl, rfl, by rw [szl]; simpa [Str.length] using hl, ?_⟩
        have e : (⟨a.toArray⟩ : Str) ++ ⟨b.toArray⟩ = ⟨(a ++ b).toArray⟩ := by
          show Str.mk (a.toArray ++ b.toArray) = _
          simp
        rw [e]
        exact g.here R rfl
      · exact g.elim
    | _ => exact cat_ok R ia ib I rx ry g
  | tup a =>
    cases e with
    | tup b =>
      obtain ⟨p, vs, rfl, hp, l1⟩ := ia
      obtain ⟨q, us, rfl, hq, l2⟩ := ib
      simp only [binD] at g
      split at g
      · rename_i hl
        refine kno_op op_catA pins s σ H _ _ v u Q I rx ry ⟨p, q, vs, us, rfl, rfl, hp, hq, by rw [l1.length, l2.length, szl]; exact hl, fun e => ?_, fun _ e => ?_, fun _ _ r nr => g.newT R (l1.append l2) nr⟩
        · subst e
          have e0 : a = [] := by
            have := l1.length
            cases a with
            | nil => rfl
            | cons _ _ => simp at this
          subst e0
          exact fun _ => g.here R ⟨q, us, rfl, hq, l2⟩
        · subst e
          have e0 : b = [] := by
            have := l2.length
            cases b with
            | nil => rfl
            | cons _ _ => simp at this
          subst e0
          exact fun _ => g.here R ⟨p, vs, rfl, hp, by rw [List.append_nil]; exact l1⟩
      · exact g.elim
    | _ => exact cat_ok R ia ib I rx ry g
  | _ => exact cat_ok R ia ib I rx ry (by cases e <;> exact g)
theorem op_subD : OpR X (binaryOp .Sub) (rD2 X.K C (binD .sub)) := by
  intro pins s σ H x y v u Q I rx ry h
  obtain ⟨μ, S, d, e, R, ia, ib, g⟩ := h
  cases d <;> cases e <;> try (exact g.elim)
  rename_i i j
  cases ia; cases ib
  exact op_sub pins s σ H _ _ v u Q I rx ry ⟨i, j, rfl, rfl, g.here R rfl⟩
theorem op_modD : OpR X (binaryOp .Mod) (rD2 X.K C (binD .mod)) := by
  intro pins s σ H x y v u Q I rx ry h
  obtain ⟨μ, S, d, e, R, ia, ib, g⟩ := h
  cases d <;> cases e <;> try (exact g.elim)
  rename_i i j
  cases ia; cases ib
  simp only [binD] at g
  split at g
  · rename_i hj
    exact op_mod pins s σ H _ _ v u Q I rx ry ⟨i, j, rfl, rfl, hj, g.here R rfl⟩
  · exact g.elim
theorem op_fdivD : OpR X (binaryOp .FloorDiv) (rD2 X.K C (binD .fdiv)) := by
  intro pins s σ H x y v u Q I rx ry h
  obtain ⟨μ, S, d, e, R, ia, ib, g⟩ := h
  cases d <;> cases e <;> try (exact g.elim)
  rename_i i j
  cases ia; cases ib
  simp only [binD] at g
  split at g
  · rename_i hj
    exact op_fdiv pins s σ H _ _ v u Q I rx ry ⟨i, j, rfl, rfl, hj, g.here R rfl⟩
  · exact g.elim
theorem op_powD : OpR X (binaryOp .Pow) (rD2 X.K C (binD .pow)) := by
  intro pins s σ H x y v u Q I rx ry h
  obtain ⟨μ, S, d, e, R, ia, ib, g⟩ := h
  cases d <;> cases e <;> try (exact g.elim)
  rename_i i j
  cases ia; cases ib
  simp only [binD] at g
  split at g
  · rename_i hj
    have hs := small_ok hj.2.2
    exact op_pow pins s σ H _ _ v u Q I rx ry ⟨i, j, rfl, rfl, ⟨hj.1, hj.2.1, by omega⟩, g.here R rfl⟩
  · exact g.elim
theorem op_mulD : OpR X (binaryOp .Mult) (rD2 X.K C (binD .mul)) := by
  intro pins s σ H x y v u Q I rx ry h
  obtain ⟨μ, S, d, e, R, ia, ib, g⟩ := h
  cases d with
  | int i =>
    cases e with
    | int j =>
      cases ia; cases ib
      simp only [binD] at g
      split at g
      · rename_i hc
        rw [Bool.or_eq_true, Bool.or_eq_true, Bool.and_eq_true] at hc
        rcases hc with (hc | hc) | ⟨h1, h2⟩
        · exact op_mul pins s σ H _ _ v u Q I rx ry ⟨i, j, rfl, rfl, .inl (small_ok hc), g.here R rfl⟩
        · exact op_mul pins s σ H _ _ v u Q I rx ry ⟨i, j, rfl, rfl, .inr (small_ok hc), g.here R rfl⟩
        · exact op_mulW pins s σ H _ _ v u Q I rx ry ⟨i, j, rfl, rfl, wide_mul (wide_ok h1) (wide_ok h2) (by decide) (by decide) (by decide), g.here R rfl⟩
      · exact g.elim
    | _ => exact g.elim
  | lst a =>
    cases e with
    | int j =>
      obtain ⟨p, vs, rfl, _, hp, l1⟩ := ia
      cases ib
      simp only [binD] at g
      split at g
      · rename_i hc
        obtain ⟨h1, h2, h3⟩ := hc
        exact kno_op op_rep pins s σ H _ _ v u Q I rx ry ⟨p, j, vs, rfl, rfl, hp, by omega, by omega, by rw [l1.length, szl]; exact h3, fun r nr => g.newL R (l1.rep _) nr⟩
      · exact g.elim
    | _ => exact g.elim
  | str a =>
    cases e with
    | int j =>
      cases ia; cases ib
      simp only [binD] at g
      split at g
      · rename_i hc
        obtain ⟨h1, h2, h3⟩ := hc
        obtain ⟨t, rfl⟩ := rx
        obtain ⟨t', rfl⟩ := ry
        refine SB.mul (mul_fits h1 h2 h3) fun t2 k => ⟨.str (Txt.mul ⟨a.toArray⟩ j), H, I.tok k, ⟨t2, rfl⟩, ?_⟩
        rw [txt_mul a h1]
        exact g.here R rfl
      · exact g.elim
    | _ => exact g.elim
  | _ => cases e <;> exact g.elim
end
end SL
set_option Elab.async false
set_option linter.all false
set_option maxRecDepth 100000
set_option maxHeartbeats 1000000
/-! A3: comparisons, subscripts, slices, built-in functions, methods. -/
namespace SL
open PySem PySem.Spec L2

section
variable {K : PySem.W.Frag} {C : Nat → Addr} {μ : Mu} {H : Hp} {S : Sto}
theorem resL_dp {f : D → Option PyData} (h : ∀ d v p, Is K μ H d v → f d = some p → Dp K H v p) : ∀ (ds : List D) (vs : List V) (ps : List PyData), IsL K μ H ds vs → resL f ds = some ps → DpAll K H vs ps
  | [], vs, ps, i, e => by
    cases (show vs = [] from i)
    cases e
    exact .nil
  | d :: ds, vs, ps, i, e => by
    obtain ⟨v, r, rfl, i1, i2⟩ := i
    unfold resL at e
    cases e1 : f d with
    | none => rw [e1] at e; cases e
    | some a =>
      cases e2 : resL f ds with
      | none => rw [e1, e2] at e; cases e
      | some b =>
        rw [e1, e2] at e
        cases e
        exact .cons (h d v a i1 e1) (resL_dp h ds r b i2 e2)
theorem res_dp (R : RepS K C μ S H) : ∀ (n : Nat) (d : D) (v : V) (p : PyData), Is K μ H d v → res S n d = some p → Dp K H v p
  | 0, _, _, _, _, e => by cases e
  | n + 1, .non, v, p, i, e => by cases i; cases e; exact .non
  | n + 1, .bl b, v, p, i, e => by cases i; cases e; exact .bl b
  | n + 1, .int b, v, p, i, e => by cases i; cases e; exact .int b
  | n + 1, .str b, v, p, i, e => by cases i; cases e; exact .str _
  | n + 1, .tup ds, v, p, i, e => by
    obtain ⟨a, vs, rfl, q, l⟩ := i
    unfold res at e
    cases e1 : resL (res S n) ds with
    | none => rw [e1] at e; cases e
    | some ps =>
      rw [e1] at e
      cases e
      exact .tup q (resL_dp (res_dp R n) ds vs ps l e1)
  | n + 1, .lst ds, v, p, i, e => by
    obtain ⟨a, vs, rfl, _, q, l⟩ := i
    unfold res at e
    cases e1 : resL (res S n) ds with
    | none => rw [e1] at e; cases e
    | some ps =>
      rw [e1] at e
      cases e
      exact .lst (.inl (.inl q)) (resL_dp (res_dp R n) ds vs ps l e1)
  | n + 1, .scr _, v, p, i, e => by cases e
  | n + 1, .dct _ _, v, p, i, e => by cases e
  | n + 1, .ref k, v, p, i, e => by
    unfold res at e
    cases e0 : S[k]? with
    | none => simp only [e0] at e; cases e
    | some o =>
      simp only [e0] at e
      cases o with
      | lst ds =>
        obtain ⟨a, rfl, m, vs, q, l⟩ := R.at i e0
        dsimp only at e
        cases e1 : resL (res S n) ds with
        | none => rw [e1] at e; cases e
        | some ps =>
          rw [e1] at e
          cases e
          exact .lst (.inl (.inl q)) (resL_dp (res_dp R n) ds vs ps l e1)
      | ins _ _ => cases e
      | exc _ _ => cases e
      | dct _ _ => cases e
theorem look_dp (R : RepS K C μ S H) {d : D} {v : V} {p : PyData} (i : Is K μ H d v) (e : look S d = some p) : Dp K H v p ∧ SeqAt.shaped p = true := by
  unfold look at e
  cases e1 : res S 70 d with
  | none => rw [e1] at e; cases e
  | some q =>
    rw [e1] at e
    dsimp only at e
    split at e
    · rename_i hf
      cases e
      exact ⟨res_dp R 70 d v _ i e1, hf⟩
    · cases e
theorem resL_fit : ∀ {ds : List D} {ps : List PyData}, resL (look S) ds = some ps → PyData.canLayAll0 ps = true
  | [], ps, e => by cases e; simp [PyData.canLayAll0]
  | d :: ds, ps, e => by
    unfold resL at e
    cases e1 : look S d with
    | none => rw [e1] at e; cases e
    | some a =>
      cases e2 : resL (look S) ds with
      | none => rw [e1, e2] at e; cases e
      | some b =>
        rw [e1, e2] at e
        cases e
        have h1 : fit a = true := by
          unfold look at e1
          cases q : res S 70 d with
          | none => rw [q] at e1; cases e1
          | some z =>
            rw [q] at e1
            dsimp only at e1
            split at e1
            · cases e1; assumption
            · cases e1
        unfold fit at h1
        rw [Bool.and_eq_true] at h1
        simp only [PyData.canLayAll0, h1.1, resL_fit e2, Bool.and_self]
end

section
variable {X : Cx} {C : Nat → Addr}
theorem boolV {K : PySem.W.Frag} {C : Nat → Addr} {μ : Mu} {H : Hp} {Q : VK} {S : Sto} {o : Option Bool} (R : RepS K C μ S H) (g : GoodV K C μ H Q (boolD o S)) : ∃ b, o = some b ∧ Q (.bl b) H := by
  cases o with
  | none => exact g.elim
  | some b => exact ⟨b, rfl, g.here R rfl⟩
theorem eqD_dp {K : PySem.W.Frag} {μ : Mu} {H : Hp} {S : Sto} {d e : D} {x y : V} {b : Bool} (R : RepS K C μ S H) (ia : Is K μ H d x) (ib : Is K μ H e y) (h : eqLook S d e = some b) :
    ∃ p q, Dp K H x p ∧ Dp K H y q ∧ SeqAt.shaped p = true ∧ SeqAt.shaped q = true ∧ b = PyData.eqv p q := by
  unfold eqLook at h
  cases e1 : look S d with
  | none => rw [e1] at h; cases h
  | some p =>
    cases e2 : look S e with
    | none => rw [e1, e2] at h; cases h
    | some q =>
      rw [e1, e2] at h
      cases h
      obtain ⟨d1, s1⟩ := look_dp R ia e1
      obtain ⟨d2, s2⟩ := look_dp R ib e2
      exact ⟨p, q, d1, d2, s1, s2, rfl⟩
theorem eqStr_shape {d e : D} {b : Bool} (h : eqStr d e = some b) : ∃ x y, d = .str x ∧ e = .str y ∧ b = decide (x = y) := by
  unfold eqStr at h
  split at h
  · cases h; exact ⟨_, _, rfl, rfl, rfl⟩
  · cases h
theorem dec_str (x y : List Nat) : decide (V.str ⟨x.toArray⟩ = V.str ⟨y.toArray⟩) = decide (x = y) := by
  apply decide_eq_decide.mpr
  constructor
  · intro h
    have := congrArg (fun z : V => match z with | .str w => w.cps.toList | _ => []) h
    simpa using this
  · intro h; rw [h]
theorem op_eqDD (hu : X.A.units + 64 < cLine) : OpR X (compareOp .Eq) (rD2 X.K C (cmpD .eq)) := by
  intro pins s σ H x y v u Q I rx ry h
  obtain ⟨μ, S, d, e, R, ia, ib, g⟩ := h
  obtain ⟨b, e1, q⟩ := boolV R g
  unfold eqD at e1
  cases e2 : eqStr d e with
  | some r =>
    rw [e2] at e1
    cases e1
    obtain ⟨z1, z2, rfl, rfl, rfl⟩ := eqStr_shape e2
    cases ia; cases ib
    exact op_eq pins s σ H _ _ v u Q I rx ry ⟨rfl, by rw [dec_str]; exact q⟩
  | none =>
    rw [e2] at e1
    obtain ⟨p, r, d1, d2, s1, s2, rfl⟩ := eqD_dp R ia ib e1
    exact op_eqD hu pins s σ H _ _ v u Q I rx ry ⟨p, r, d1, d2, s1, s2, q⟩
theorem op_neDD (hu : X.A.units + 64 < cLine) : OpR X (compareOp .NotEq) (rD2 X.K C (cmpD .ne)) := by
  intro pins s σ H x y v u Q I rx ry h
  obtain ⟨μ, S, d, e, R, ia, ib, g⟩ := h
  obtain ⟨b, e0, q⟩ := boolV R g
  obtain ⟨c, e1, rfl⟩ := Option.map_eq_some_iff.mp e0
  unfold eqD at e1
  cases e2 : eqStr d e with
  | some r =>
    rw [e2] at e1
    cases e1
    obtain ⟨z1, z2, rfl, rfl, rfl⟩ := eqStr_shape e2
    cases ia; cases ib
    exact op_ne pins s σ H _ _ v u Q I rx ry ⟨rfl, by rw [dec_str]; exact q⟩
  | none =>
    rw [e2] at e1
    obtain ⟨p, r, d1, d2, s1, s2, rfl⟩ := eqD_dp R ia ib e1
    exact op_neD hu pins s σ H _ _ v u Q I rx ry ⟨p, r, d1, d2, s1, s2, q⟩
theorem op_ltDD : OpR X (compareOp .Lt) (rD2 X.K C (cmpD .lt)) := by
  intro pins s σ H x y v u Q I rx ry h
  obtain ⟨μ, S, d, e, R, ia, ib, g⟩ := h
  obtain ⟨b, e1, q⟩ := boolV R g
  cases d <;> cases e <;> try (cases e1)
  · rename_i i j
    cases ia; cases ib
    exact op_lt pins s σ H _ _ v u Q I rx ry ⟨i, j, rfl, rfl, q⟩
  · rename_i i j
    cases ia; cases ib
    exact op_lt_str pins s σ H _ _ v u Q I rx ry ⟨_, _, rfl, rfl, by simpa using q⟩
theorem op_leDD : OpR X (compareOp .LtE) (rD2 X.K C (cmpD .le)) := by
  intro pins s σ H x y v u Q I rx ry h
  obtain ⟨μ, S, d, e, R, ia, ib, g⟩ := h
  obtain ⟨b, e1, q⟩ := boolV R g
  cases d <;> cases e <;> try (cases e1)
  rename_i i j
  cases ia; cases ib
  exact op_le pins s σ H _ _ v u Q I rx ry ⟨i, j, rfl, rfl, q⟩
theorem op_gtDD : OpR X (compareOp .Gt) (rD2 X.K C (cmpD .gt)) := by
  intro pins s σ H x y v u Q I rx ry h
  obtain ⟨μ, S, d, e, R, ia, ib, g⟩ := h
  obtain ⟨b, e1, q⟩ := boolV R g
  cases d <;> cases e <;> try (cases e1)
  rename_i i j
  cases ia; cases ib
  exact op_gt pins s σ H _ _ v u Q I rx ry ⟨i, j, rfl, rfl, q⟩
theorem op_geDD : OpR X (compareOp .GtE) (rD2 X.K C (cmpD .ge)) := by
  intro pins s σ H x y v u Q I rx ry h
  obtain ⟨μ, S, d, e, R, ia, ib, g⟩ := h
  obtain ⟨b, e1, q⟩ := boolV R g
  cases d <;> cases e <;> try (cases e1)
  rename_i i j
  cases ia; cases ib
  exact op_ge pins s σ H _ _ v u Q I rx ry ⟨i, j, rfl, rfl, q⟩

/-- pairs as keys and values -/
theorem kvs_get {K : PySem.W.Frag} {μ : Mu} {H : Hp} (k : DK) : ∀ {ks : List DK} {ds : List D} {kvs : List (Key × V)}, kvs.map (·.1) = ks.map keyOf → IsL K μ H ds (kvs.map (·.2)) → match kGet ks ds k with
    | some d => ∃ v, valV kvs (keyOf k) = some v ∧ Is K μ H d v
    | none => valV kvs (keyOf k) = none
  | [], ds, kvs, e, l => by
    cases kvs with
    | nil => cases ds <;> rfl
    | cons _ _ => cases e
  | k' :: ks, ds, kvs, e, l => by
    cases kvs with
    | nil => cases e
    | cons p kvs =>
      rw [List.map_cons, List.map_cons] at e
      injection e with e1 e2
      cases ds with
      | nil => cases l
      | cons d ds =>
        obtain ⟨v, r, er, i, l⟩ := l
        rw [List.map_cons] at er
        injection er with er1 er2
        subst er1 er2
        have ih := kvs_get k (ks := ks) (ds := ds) e2 l
        unfold kGet
        by_cases h : k' = k
        · rw [if_pos h]
          exact ⟨p.2, valV_pos (by rw [e1, h]), i⟩
        · rw [if_neg h]
          have : ¬ p.1 = keyOf k := fun z => h (keyOf_inj (e1.symm.trans z))
          rw [valV_neg this]
          exact ih
theorem any_key {ks : List DK} {kvs : List (Key × V)} (k : DK) (e : kvs.map (·.1) = ks.map keyOf) : (kvs.any fun kv => decide (kv.1 = keyOf k)) = decide (k ∈ ks) := by
  induction ks generalizing kvs with
  | nil =>
    cases kvs with
    | nil => rfl
    | cons _ _ => cases e
  | cons k' ks ih =>
    cases kvs with
    | nil => cases e
    | cons p kvs =>
      rw [List.map_cons, List.map_cons] at e
      injection e with e1 e2
      rw [List.any_cons, ih e2, e1]
      by_cases h : k' = k
      · subst h; simp
      · have : ¬ keyOf k' = keyOf k := fun z => h (keyOf_inj z)
        simp [this, Ne.symm h]
theorem kvs_set {K : PySem.W.Frag} {μ : Mu} {H : Hp} {k : DK} {d : D} {v : V} (i : Is K μ H d v) : ∀ {ks : List DK} {ds : List D} {kvs : List (Key × V)}, kvs.map (·.1) = ks.map keyOf → IsL K μ H ds (kvs.map (·.2)) →
    (kvs.map (fun kv => if kv.1 = keyOf k then (kv.1, v) else kv)).map (·.1) = ks.map keyOf ∧ IsL K μ H (kSet ks ds k d) ((kvs.map (fun kv => if kv.1 = keyOf k then (kv.1, v) else kv)).map (·.2))
  | [], ds, kvs, e, l => by
    cases kvs with
    | nil => cases ds <;> exact ⟨rfl, l⟩
    | cons _ _ => cases e
  | k' :: ks, ds, kvs, e, l => by
    cases kvs with
    | nil => cases e
    | cons p kvs =>
      rw [List.map_cons, List.map_cons] at e
      injection e with e1 e2
      cases ds with
      | nil => cases l
      | cons d' ds =>
        obtain ⟨v', r, er, i', l⟩ := l
        rw [List.map_cons] at er
        injection er with er1 er2
        subst er1 er2
        obtain ⟨h1, h2⟩ := kvs_set (k := k) i (ks := ks) (ds := ds) e2 l
        by_cases h : k' = k
        · have h' : p.1 = keyOf k := by rw [e1, h]
          refine ⟨?_, ?_⟩
          · rw [List.map_cons, List.map_cons, List.map_cons, h1, if_pos h', e1]
          · unfold kSet
            rw [List.map_cons, List.map_cons, if_pos h, if_pos h']
            exact ⟨v, _, rfl, i, h2⟩
        · have h' : ¬ p.1 = keyOf k := fun z => h (keyOf_inj (e1.symm.trans z))
          refine ⟨?_, ?_⟩
          · rw [List.map_cons, List.map_cons, List.map_cons, h1, if_neg h', e1]
          · unfold kSet
            rw [List.map_cons, List.map_cons, if_neg h, if_neg h']
            exact ⟨_, _, rfl, i', h2⟩
theorem kvs_put {K : PySem.W.Frag} {μ : Mu} {H : Hp} {k : DK} {d : D} {v : V} (i : Is K μ H d v) {ks : List DK} {ds : List D} {kvs : List (Key × V)} (e : kvs.map (·.1) = ks.map keyOf) (l : IsL K μ H ds (kvs.map (·.2))) :
    (putK kvs (keyOf k) v).map (·.1) = (kPutK ks k).map keyOf ∧ IsL K μ H (kPutD ks ds k d) ((putK kvs (keyOf k) v).map (·.2)) := by
  unfold putK kPutK kPutD
  rw [any_key k e]
  by_cases h : k ∈ ks
  · rw [if_pos (by simpa using h), if_pos h, if_pos h]
    exact kvs_set i e l
  · rw [if_neg (by simpa using h), if_neg h, if_neg h]
    refine ⟨by rw [List.map_append, List.map_append, e]; rfl, ?_⟩
    rw [List.map_append]
    exact l.append ⟨v, [], rfl, i, rfl⟩
theorem kvs_len {ks : List DK} {kvs : List (Key × V)} (e : kvs.map (·.1) = ks.map keyOf) : kvs.length = ks.length := by
  have := congrArg List.length e
  simpa using this
/-- a key of a dict, as a value -/
theorem dkOf_is {K : PySem.W.Frag} {μ : Mu} {H : Hp} {d : D} {v : V} {k : DK} (i : Is K μ H d v) (e : dkOf d = some k) : v = kV (keyOf k) := by
  cases d <;> cases e <;> cases i <;> rfl
theorem dkD_is {K : PySem.W.Frag} {μ : Mu} {H : Hp} (k : DK) : Is K μ H (dkD k) (kV (keyOf k)) := by
  cases k <;> rfl
theorem kGet_mem (k : DK) : ∀ {ks : List DK} {ds : List D}, ks.length = ds.length → (kGet ks ds k).isSome = decide (k ∈ ks)
  | [], ds, _ => by cases ds <;> rfl
  | k' :: ks, [], h => by cases h
  | k' :: ks, d :: ds, h => by
    unfold kGet
    by_cases e : k' = k
    · subst e; simp
    · rw [if_neg e, kGet_mem k (by simpa using h)]
      simp [Ne.symm e]
/-- a dict of the pure meaning stands in the heap -/
theorem dict_at {K : PySem.W.Frag} {μ : Mu} {H : Hp} {S : Sto} {d : D} {v : V} {ks : List DK} {ds : List D} (R : RepS K C μ S H) (i : Is K μ H d v) (e : dictOf S d = some (ks, ds)) : ∃ a kvs, v = .ref a ∧ H a = some (.dK kvs) ∧ kvs.map (·.1) = ks.map keyOf ∧ IsL K μ H ds (kvs.map (·.2)) := by
  cases d with
  | dct ks' ds' =>
    cases e
    obtain ⟨a, kvs, rfl, _, h1, h2, h3⟩ := i
    exact ⟨a, kvs, rfl, h1, h2, h3⟩
  | ref k =>
    cases q : S[k]? with
    | none => simp only [dictOf, q] at e; cases e
    | some o =>
      simp only [dictOf, q] at e
      cases o with
      | dct ks' ds' =>
        cases e
        obtain ⟨a, rfl, m, kvs, h1, h2, h3⟩ := R.at i q
        exact ⟨a, kvs, rfl, h1, h2, h3⟩
      | _ => cases e
  | _ => cases e
theorem kvs_some {K : PySem.W.Frag} {μ : Mu} {H : Hp} {k : DK} {ks : List DK} {ds : List D} {kvs : List (Key × V)} (e : kvs.map (·.1) = ks.map keyOf) (l : IsL K μ H ds (kvs.map (·.2))) : (valV kvs (keyOf k)).isSome = decide (k ∈ ks) := by
  have hl : ks.length = ds.length := by
    have h1 := congrArg List.length e
    have h2 := l.length
    simp at h1 h2
    omega
  have h := kvs_get (k := k) e l
  rw [← kGet_mem k hl]
  cases q : kGet ks ds k with
  | none => rw [q] at h; rw [h]; rfl
  | some d =>
    rw [q] at h
    obtain ⟨v, ev, _⟩ := h
    rw [ev]; rfl
theorem in_dict_ok (hu : X.A.units + 65 < cLine) {d e : D} {b : Bool} {Q : VK} {μ : Mu} {S : Sto} {H : Hp} {x y : V} {v u : Value} {pins : List (Addr × Obj)} {s : Shared} {σ : St} (neg : Bool) (R : RepS X.K C μ S H) (ia : Is X.K μ H d x) (ib : Is X.K μ H e y) (I : Inv X pins σ H s) (rx : RelV x v) (ry : RelV y u)
    (g : inDict S d e = some b) (q : Q (.bl (if neg then !b else b)) H) : wpAny (model X.prog X.w) X.A (compareOp (if neg then .NotIn else .In) v u) (EP X pins σ Q) X.xe s := by
  unfold inDict at g
  cases e1 : dictOf S e with
  | none => rw [e1] at g; cases g
  | some kd =>
    cases e2 : dkOf d with
    | none => rw [e1, e2] at g; cases g
    | some k =>
      rw [e1, e2] at g
      cases g
      obtain ⟨ks, ds⟩ := kd
      obtain ⟨a, kvs, rfl, h1, h2, h3⟩ := dict_at R ib e1
      cases dkOf_is ia e2
      cases ry
      have hs := kvs_some (k := k) h2 h3
      cases neg with
      | false => exact d_in (by omega) I (DGet.k h1) rx fun s' I' => ⟨.bl _, H, I', rfl, by rw [hs]; exact q⟩
      | true => exact d_notIn (by omega) I (DGet.k h1) rx fun s' I' => ⟨.bl _, H, I', rfl, by rw [hs]; exact q⟩
/-- x in a list or tuple -/
theorem in_seq_ok (hu : X.A.units + 65 < cLine) {d e : D} {b : Bool} {Q : VK} {μ : Mu} {S : Sto} {H : Hp} {x y : V} {v u : Value} {pins : List (Addr × Obj)} {s : Shared} {σ : St} (neg : Bool) (R : RepS X.K C μ S H) (ia : Is X.K μ H d x) (ib : Is X.K μ H e y) (I : Inv X pins σ H s) (rx : RelV x v) (ry : RelV y u)
    (g : inSeq S d e = some b) (q : Q (.bl (if neg then !b else b)) H) : wpAny (model X.prog X.w) X.A (compareOp (if neg then .NotIn else .In) v u) (EP X pins σ Q) X.xe s := by
  unfold inSeq at g
  cases e1 : look S d with
  | none => rw [e1] at g; cases g
  | some p =>
    cases e2 : seqOf S e with
    | none => rw [e1, e2] at g; cases g
    | some ds =>
      rw [e1, e2] at g
      dsimp only at g
      cases e3 : resL (look S) ds with
      | none => rw [e3] at g; cases g
      | some ys =>
        rw [e3] at g
        cases g
        obtain ⟨d1, s1⟩ := look_dp R ia e1
        obtain ⟨a, vs, rfl, hq, l⟩ := R.seq ib e2
        have dl : DpAll X.K H vs ys := resL_dp (fun d v p i e => (look_dp R i e).1) ds vs ys l e3
        obtain ⟨as, r1⟩ := Dp.reads I p x v d1 rx
        have cl := resL_fit e3
        have sd : p.canLay0 = true ∧ p.depth ≤ 64 := by
          have z : (p.canLay0 && decide (p.depth ≤ 64)) = true := s1
          rw [Bool.and_eq_true] at z
          exact ⟨z.1, of_decide_eq_true z.2⟩
        have hr : X.A.units + 1 + min (PyData.depthAll ys) p.depth < cLine := by
          have := Nat.min_le_right (PyData.depthAll ys) p.depth
          omega
        rcases hq with hq | hq
        · obtain ⟨bs, r2⟩ := Dp.reads I (.list ys) (.ref a) u (.lst hq dl) ry
          cases neg with
          | false => exact SeqAt.in_list_reads r2 r1 cl sd.1 hr ⟨.bl _, H, I, rfl, q⟩
          | true => exact SeqAt.notIn_list_reads r2 r1 cl sd.1 hr ⟨.bl _, H, I, rfl, q⟩
        · obtain ⟨bs, r2⟩ := Dp.reads I (.tuple ys) (.ref a) u (.tup hq dl) ry
          cases neg with
          | false => exact SeqAt.in_tuple_reads r2 r1 cl sd.1 hr ⟨.bl _, H, I, rfl, q⟩
          | true => exact SeqAt.notIn_tuple_reads r2 r1 cl sd.1 hr ⟨.bl _, H, I, rfl, q⟩
theorem signIn_shape {d e : D} {b : Bool} (h : signIn d e = some b) : ∃ c y, d = .str [c] ∧ e = .str y ∧ b = decide (c ∈ y) := by
  unfold signIn at h
  split at h
  · cases h; exact ⟨_, _, rfl, rfl, rfl⟩
  · cases h
theorem op_inDD (hu : X.A.units + 65 < cLine) : OpR X (compareOp .In) (rD2 X.K C (cmpD .isin)) := by
  intro pins s σ H x y v u Q I rx ry h
  obtain ⟨μ, S, d, e, R, ia, ib, g⟩ := h
  obtain ⟨b, e1, q⟩ := boolV R g
  unfold inD at e1
  cases e2 : signIn d e with
  | some r =>
    rw [e2] at e1
    cases e1
    obtain ⟨c, z, rfl, rfl, rfl⟩ := signIn_shape e2
    cases ia; cases ib
    exact op_in_sign pins s σ H _ _ v u Q I rx ry ⟨c, _, rfl, rfl, by simpa using q⟩
  | none =>
    rw [e2] at e1
    dsimp only at e1
    cases e3 : inSeq S d e with
    | some r =>
      rw [e3] at e1
      cases e1
      exact in_seq_ok hu false R ia ib I rx ry e3 q
    | none =>
      rw [e3] at e1
      exact in_dict_ok hu false R ia ib I rx ry e1 q
theorem op_notinDD (hu : X.A.units + 65 < cLine) : OpR X (compareOp .NotIn) (rD2 X.K C (cmpD .notin)) := by
  intro pins s σ H x y v u Q I rx ry h
  obtain ⟨μ, S, d, e, R, ia, ib, g⟩ := h
  obtain ⟨b, e0, q⟩ := boolV R g
  obtain ⟨b', e1, rfl⟩ := Option.map_eq_some_iff.mp e0
  unfold inD at e1
  cases e2 : signIn d e with
  | some r =>
    rw [e2] at e1
    cases e1
    obtain ⟨c, z, rfl, rfl, rfl⟩ := signIn_shape e2
    cases ia; cases ib
    exact op_notIn_sign pins s σ H _ _ v u Q I rx ry ⟨c, _, rfl, rfl, by simpa using q⟩
  | none =>
    rw [e2] at e1
    dsimp only at e1
    cases e3 : inSeq S d e with
    | some r =>
      rw [e3] at e1
      cases e1
      exact in_seq_ok hu true R ia ib I rx ry e3 q
    | none =>
      rw [e3] at e1
      exact in_dict_ok hu true R ia ib I rx ry e1 q

/-! ### subscripts -/
theorem place_ixN (i : Int) (n : Nat) : placeOf i n = ixN n i := rfl
theorem at_some {α : Type} {xs : List α} {i : Int} {k : Nat} {y : α} (h1 : placeOf i xs.length = some k) (h2 : xs[k]? = some y) : atI xs i = some y := by
  unfold atI
  rw [← place_ixN, h1]
  exact h2
theorem at_isL {K : PySem.W.Frag} {μ : Mu} {H : Hp} {ds : List D} {vs : List V} {i : Int} {k : Nat} {d : D} (l : IsL K μ H ds vs) (h1 : placeOf i ds.length = some k) (h2 : ds[k]? = some d) : ∃ v, atI vs i = some v ∧ Is K μ H d v := by
  obtain ⟨v, e, q⟩ := l.get h2
  exact ⟨v, at_some (by rw [l.length]; exact h1) e, q⟩
open PyProof.Rows in
theorem ix_dict (hu : X.A.units + 1 < cLine) : IxR X (fun x y H Q => ∃ a v, x = .ref a ∧ DGet H a y (some v) ∧ Q v H) := by
  intro value slice pins s σ H x y v u Q I rx ry h hs
  obtain ⟨a, w, rfl, g, q⟩ := h
  cases rx
  have hT := dict_typeIs I g
  unfold subscriptTail
  refine wpAny_bind ?_
  rw [getitemInPython_of_ne hT.not_modules]
  refine wpAny_bind (wpAny_specialOf hT PySem.F.slot_dict_getitem.lookup ?_)
  have fin : wpAny (model X.prog X.w) X.A (subscripted slice false (.ref a) u) (fun r s₃ => wpAny (model X.prog X.w) X.A (letTemporaryGo value (.ref a) r >>= fun _ => pure r) (EP X pins σ Q) X.xe s₃) X.xe s := by
    rw [hs]
    exact wpAny_operating (d_getItem hu I g ry fun w' s' I' rw' => wpAny_bind (wpAny_letTemporaryGo (wpAny_pure ⟨w, H, I', rw', q⟩)))
  first
    | exact wpAny_pure (wpAny_bind fin)
    | exact wpAny_bind (wpAny_pure (wpAny_bind fin))
    | exact wpAny_bind fin
theorem ix_dsub (hu : X.A.units + 1 < cLine) : IxR X (rD2 X.K C dsubD) := by
  intro value slice pins s σ H x y v u Q I rx ry h hs
  obtain ⟨μ, S, d, e, R, ia, ib, g⟩ := h
  unfold dsubD at g
  cases e1 : dictOf S d with
  | none => rw [e1] at g; exact g.elim
  | some kd =>
    cases e2 : dkOf e with
    | none => rw [e1, e2] at g; exact g.elim
    | some k =>
      rw [e1, e2] at g
      obtain ⟨ks, ds⟩ := kd
      dsimp only at g
      obtain ⟨a, kvs, rfl, h1, h2, h3⟩ := dict_at R ia e1
      cases dkOf_is ib e2
      have hh := kvs_get (k := k) h2 h3
      cases e3 : kGet ks ds k with
      | none => rw [e3] at g; exact g.elim
      | some w =>
        rw [e3] at g hh
        obtain ⟨z, ez, iz⟩ := hh
        refine ix_dict hu value slice pins s σ H _ _ v u Q I rx ry ⟨a, z, rfl, ?_, g.here R iz⟩ hs
        have := DGet.k (k := keyOf k) h1
        rw [ez] at this
        exact this
theorem ix_D (hu : X.A.units + 1 < cLine) : IxR X (rD2 X.K C subD) := by
  intro value slice pins s σ H x y v u Q I rx ry h hs
  obtain ⟨μ, S, d, e, R, ia, ib, g⟩ := h
  by_cases hi : ∃ i, e = .int i
  case neg =>
    have e0 : subD d e S = dsubD d e S := by
      cases e <;> first | rfl | exact absurd ⟨_, rfl⟩ hi
    rw [e0] at g
    exact ix_dsub hu value slice pins s σ H x y v u Q I rx ry ⟨μ, S, d, e, R, ia, ib, g⟩ hs
  obtain ⟨i, rfl⟩ := hi
  have ib0 := ib
  cases ib
  by_cases hd : ∃ z, d = .str z
  · obtain ⟨z, rfl⟩ := hd
    cases ia
    simp only [subD] at g
    split at g
    · rename_i hz
      cases e1 : placeOf i z.length with
      | none => rw [e1] at g; exact g.elim
      | some k =>
        rw [e1] at g
        dsimp only at g
        cases e2 : z[k]? with
        | none => rw [e2] at g; exact g.elim
        | some c =>
          rw [e2] at g
          exact ix_str value slice pins s σ H _ _ v u Q I rx ry ⟨_, i, c, rfl, rfl, by rw [szl]; simpa [Str.length] using hz, at_some (by simpa using e1) (by simpa using e2), g.here R rfl⟩ hs
    · exact g.elim
  · have e0 : subD d (.int i) S = (match seqOf S d with
      | some ds => match placeOf i ds.length with
        | some k => match ds[k]? with
          | some d => .ok d S
          | none => .bad
        | none => .bad
      | none => dsubD d (.int i) S) := by
      cases d <;> first | rfl | exact absurd ⟨_, rfl⟩ hd
    rw [e0] at g
    cases e1 : seqOf S d with
    | none =>
      rw [e1] at g
      exact ix_dsub hu value slice pins s σ H x _ v u Q I rx ry ⟨μ, S, d, _, R, ia, ib0, g⟩ hs
    | some ds =>
      rw [e1] at g
      dsimp only at g
      cases e2 : placeOf i ds.length with
      | none => rw [e2] at g; exact g.elim
      | some k =>
        rw [e2] at g
        dsimp only at g
        cases e3 : ds[k]? with
        | none => rw [e3] at g; exact g.elim
        | some r =>
          rw [e3] at g
          obtain ⟨a, vs, rfl, hq, l⟩ := R.seq ia e1
          obtain ⟨w, e4, iw⟩ := at_isL l e2 e3
          refine ix_seq value slice pins s σ H _ _ v u Q I rx ry ?_ hs
          rcases hq with hq | hq
          · exact .inl ⟨a, vs, i, w, rfl, rfl, hq, e4, g.here R iw⟩
          · exact .inr (.inl ⟨a, vs, i, w, rfl, rfl, hq, e4, g.here R iw⟩)

/-! ### slices -/
theorem cutV_isL {K : PySem.W.Frag} {μ : Mu} {H : Hp} {ds : List D} {vs : List V} {lo hi : Option Int} (l : IsL K μ H ds vs) : IsL K μ H (cut ds lo hi) (cutV vs lo hi) := by
  have e : ∀ (n d : Nat) (o : Option Int), cutAt n d o = HT.sIx n d o := fun n d o => by cases o <;> rfl
  unfold cut cutV
  rw [l.length, e, e]
  exact (l.drop _).take _
def rSlD (K : PySem.W.Frag) (C : Nat → Addr) : V → Option Int → Option Int → Hp → VK → Prop := fun x lo hi H Q => ∃ μ S d, RepS K C μ S H ∧ Is K μ H d x ∧ GoodV K C μ H Q (slcD d lo hi S)
theorem sl_D : L2.SlR X (rSlD X.K C) := by
  intro pins s σ H x v vl vu lo hi sl Q I rx hs pl pu h
  obtain ⟨μ, S, d, R, ia, g⟩ := h
  unfold slcD at g
  have hl : ∀ d, items S d ≠ none → Is X.K μ H d x → GoodV X.K C μ H Q (match items S d with
      | some ds => .ok (.lst (cut ds lo hi)) S
      | none => .bad) → ∃ T id, typeLookup (.type T) "__getitem__" = pure (some (.builtin id)) ∧ s.TypeIs v T ∧ wpAny (model X.prog X.w) X.A (getItem v (.ref sl)) (EP X pins σ Q) X.xe s := by
    intro d hd ia g
    cases e1 : items S d with
    | none => exact absurd e1 hd
    | some ds =>
      rw [e1] at g
      obtain ⟨a, vs, rfl, hq, l⟩ := R.items ia e1
      exact kno_sl sl_list pins s σ H _ v vl vu lo hi sl Q I rx hs pl pu ⟨a, vs, rfl, .inl (.inl hq), fun p np => g.newL R (cutV_isL l) np⟩
  have hl' : ∀ d, Is X.K μ H d x → GoodV X.K C μ H Q (match items S d with
      | some ds => .ok (.lst (cut ds lo hi)) S
      | none => .bad) → ∃ T id, typeLookup (.type T) "__getitem__" = pure (some (.builtin id)) ∧ s.TypeIs v T ∧ wpAny (model X.prog X.w) X.A (getItem v (.ref sl)) (EP X pins σ Q) X.xe s := by
    intro d ia g
    refine hl d (fun e => ?_) ia g
    rw [e] at g
    exact g.elim
  cases d with
  | str z =>
    cases ia
    dsimp only at g
    split at g
    · rename_i hz
      refine sl_str pins s σ H _ v vl vu lo hi sl Q I rx hs pl pu ⟨_, rfl, by rw [szl]; simpa [Str.length] using hz, g.here R ?_⟩
      show V.str _ = V.str _
      have e : ∀ (n d : Nat) (o : Option Int), cutAt n d o = HT.sIx n d o := fun n d o => by cases o <;> rfl
      unfold cutS cut
      rw [e, e]
      simp [Str.length]
    · exact g.elim
  | tup ds =>
    obtain ⟨a, vs, rfl, hq, l⟩ := ia
    refine kno_sl sl_tupA pins s σ H _ v vl vu lo hi sl Q I rx hs pl pu ⟨a, vs, rfl, hq, fun hw _ => g.here R ⟨a, vs, rfl, hq, ?_⟩, fun _ p np => g.newT R (cutV_isL l) np⟩
    have z := cutV_isL (lo := lo) (hi := hi) l
    have e : cutV vs lo hi = vs := by
      unfold cutV
      rw [hw.1, hw.2]
      simp
    rw [e] at z
    exact z
  | lst ds => exact hl' _ ia g
  | ref k => exact hl' _ ia g
  | _ => exact g.elim
end
end SL
set_option Elab.async false
set_option linter.all false
set_option maxRecDepth 100000
set_option maxHeartbeats 1000000
/-! A4: built-in functions and methods. -/
namespace SL
open PySem PySem.Spec L2

section
variable {K : PySem.W.Frag} {C : Nat → Addr} {μ : Mu} {H : Hp} {S : Sto}
theorem isL_one {d : D} {xs : List V} (i : IsL K μ H [d] xs) : ∃ v, xs = [v] ∧ Is K μ H d v := by
  obtain ⟨v, r, rfl, i1, i2⟩ := i
  cases (show r = [] from i2)
  exact ⟨v, rfl, i1⟩
theorem isL_two {d e : D} {xs : List V} (i : IsL K μ H [d, e] xs) : ∃ v u, xs = [v, u] ∧ Is K μ H d v ∧ Is K μ H e u := by
  obtain ⟨v, r, rfl, i1, i2⟩ := i
  obtain ⟨u, rfl, i3⟩ := isL_one i2
  exact ⟨v, u, rfl, i1, i3⟩
theorem bools_isL : ∀ {ds : List D} {bs : List Bool} {vs : List V}, bools ds = some bs → IsL K μ H ds vs → vs = bs.map V.bl
  | [], bs, vs, e, i => by
    cases e
    exact i
  | d :: ds, bs, vs, e, i => by
    obtain ⟨v, r, rfl, i1, i2⟩ := i
    cases d with
    | bl b =>
      unfold bools at e
      cases e2 : bools ds with
      | none => rw [e2] at e; cases e
      | some cs =>
        rw [e2] at e
        cases e
        cases i1
        rw [bools_isL e2 i2]
        rfl
    | _ => cases e
theorem texts_isL : ∀ {ds : List D} {ts : List (List Nat)} {vs : List V}, texts ds = some ts → IsL K μ H ds vs → vs = (ts.map fun t => (⟨t.toArray⟩ : Str)).map V.str
  | [], bs, vs, e, i => by
    cases e
    exact i
  | d :: ds, bs, vs, e, i => by
    obtain ⟨v, r, rfl, i1, i2⟩ := i
    cases d with
    | str b =>
      unfold texts at e
      cases e2 : texts ds with
      | none => rw [e2] at e; cases e
      | some cs =>
        rw [e2] at e
        cases e
        cases i1
        rw [texts_isL e2 i2]
        rfl
    | _ => cases e
end
theorem joined_txt (sep : List Nat) : ∀ ts : List (List Nat), Str.join ⟨sep.toArray⟩ (ts.map fun t => (⟨t.toArray⟩ : Str)) = ⟨(joined sep ts).toArray⟩
  | [] => rfl
  | [x] => rfl
  | x :: y :: r => by
    have ih := joined_txt sep (y :: r)
    show (⟨x.toArray⟩ : Str) ++ ⟨sep.toArray⟩ ++ Str.join ⟨sep.toArray⟩ ((y :: r).map fun t => (⟨t.toArray⟩ : Str)) = _
    rw [ih]
    show Str.mk (x.toArray ++ sep.toArray ++ (joined sep (y :: r)).toArray) = Str.mk (x ++ (sep ++ joined sep (y :: r))).toArray
    simp

section
variable {X : Cx} {C : Nat → Addr}
theorem bl_len : CallR X (.builtin "len") (rDL X.K C (bltD .len)) := by
  intro pins s σ H xs us Q I r h
  obtain ⟨μ, S, ds, R, i, g⟩ := h
  match ds, i, g with
  | [d], i, g =>
    obtain ⟨v, rfl, j⟩ := isL_one i
    by_cases hd : ∃ z, d = .str z
    · obtain ⟨z, rfl⟩ := hd
      cases j
      simp only [bltD] at g
      split at g
      · rename_i hz
        refine call_len_str pins s σ H _ us Q I r ⟨_, rfl, by rw [szl]; simpa [Str.length] using hz, ?_⟩
        have e : ((⟨z.toArray⟩ : Str).length : Int) = (z.length : Int) := by simp [Str.length]
        rw [e]
        exact g.here R rfl
      · exact g.elim
    · have e0 : bltD .len [d] S = (match seqOf S d with
        | some xs => .ok (.int xs.length) S
        | none => .bad) := by
        cases d <;> first | rfl | exact absurd ⟨_, rfl⟩ hd
      rw [e0] at g
      cases e1 : seqOf S d with
      | none => rw [e1] at g; exact g.elim
      | some xs =>
        rw [e1] at g
        obtain ⟨a, vs, rfl, hq, l⟩ := R.seq j e1
        refine call_len_seq pins s σ H _ us Q I r ⟨a, vs, rfl, hq, ?_⟩
        rw [l.length]
        exact g.here R rfl
  | [], i, g => exact g.elim
  | a :: b :: c, i, g => cases a <;> exact g.elim
theorem bl_int : CallR X (.type "int") (rDL X.K C (bltD .int)) := by
  intro pins s σ H xs us Q I r h
  obtain ⟨μ, S, ds, R, i, g⟩ := h
  match ds, i, g with
  | [.int n], i, g =>
    obtain ⟨v, rfl, j⟩ := isL_one i
    cases j
    exact call_int1 pins s σ H _ us Q I r (.inl ⟨n, rfl, g.here R rfl⟩)
  | [.bl n], i, g =>
    obtain ⟨v, rfl, j⟩ := isL_one i
    cases j
    exact call_int1 pins s σ H _ us Q I r (.inr ⟨n, rfl, g.here R rfl⟩)
  | [], i, g => exact g.elim
  | [.non], i, g => exact g.elim
  | [.str _], i, g => exact g.elim
  | [.tup _], i, g => exact g.elim
  | [.lst _], i, g => exact g.elim
  | [.scr _], i, g => exact g.elim
  | [.ref _], i, g => exact g.elim
  | a :: b :: c, i, g => cases a <;> exact g.elim
theorem bl_all (hc : X.calm = true) : CallR X (.builtin "all") (rDL X.K C (bltD .all)) := by
  intro pins s σ H xs us Q I r h
  obtain ⟨μ, S, ds, R, i, g⟩ := h
  match ds, i, g with
  | [d], i, g =>
    obtain ⟨v, rfl, j⟩ := isL_one i
    simp only [bltD] at g
    cases e1 : items S d with
    | none => rw [e1] at g; exact g.elim
    | some xs =>
      rw [e1] at g
      dsimp only at g
      cases e2 : bools xs with
      | none => rw [e2] at g; exact g.elim
      | some bs =>
        rw [e2] at g
        obtain ⟨a, vs, rfl, hq, l⟩ := R.items j e1
        cases bools_isL e2 l
        exact cr_all hc pins s σ H _ us Q I r ⟨a, bs, rfl, .inl (.inl hq), g.here R rfl⟩
  | [], i, g => exact g.elim
  | a :: b :: c, i, g => exact g.elim
theorem bl_any (hc : X.calm = true) : CallR X (.builtin "any") (rDL X.K C (bltD .any)) := by
  intro pins s σ H xs us Q I r h
  obtain ⟨μ, S, ds, R, i, g⟩ := h
  match ds, i, g with
  | [d], i, g =>
    obtain ⟨v, rfl, j⟩ := isL_one i
    simp only [bltD] at g
    cases e1 : items S d with
    | none => rw [e1] at g; exact g.elim
    | some xs =>
      rw [e1] at g
      dsimp only at g
      cases e2 : bools xs with
      | none => rw [e2] at g; exact g.elim
      | some bs =>
        rw [e2] at g
        obtain ⟨a, vs, rfl, hq, l⟩ := R.items j e1
        cases bools_isL e2 l
        exact cr_any hc pins s σ H _ us Q I r ⟨a, bs, rfl, .inl (.inl hq), g.here R rfl⟩
  | [], i, g => exact g.elim
  | a :: b :: c, i, g => exact g.elim
theorem two_ints {b : Blt} (hb : b = .max ∨ b = .min) {ds : List D} {S : Sto} {K : PySem.W.Frag} {μ : Mu} {H : Hp} {Q : VK} (g : GoodV K C μ H Q (bltD b ds S)) : ∃ i j, ds = [.int i, .int j] := by
  match ds, g with
  | [.int i, .int j], g => exact ⟨i, j, rfl⟩
  | [], g => rcases hb with rfl | rfl <;> exact g.elim
  | [a], g => rcases hb with rfl | rfl <;> cases a <;> exact g.elim
  | a :: b :: c :: r, g => rcases hb with rfl | rfl <;> cases a <;> cases b <;> exact g.elim
  | [.non, y], g => rcases hb with rfl | rfl <;> exact g.elim
  | [.bl _, y], g => rcases hb with rfl | rfl <;> exact g.elim
  | [.str _, y], g => rcases hb with rfl | rfl <;> exact g.elim
  | [.tup _, y], g => rcases hb with rfl | rfl <;> exact g.elim
  | [.lst _, y], g => rcases hb with rfl | rfl <;> exact g.elim
  | [.scr _, y], g => rcases hb with rfl | rfl <;> exact g.elim
  | [.ref _, y], g => rcases hb with rfl | rfl <;> exact g.elim
  | [.dct _ _, y], g => rcases hb with rfl | rfl <;> exact g.elim
  | [.int _, .non], g => rcases hb with rfl | rfl <;> exact g.elim
  | [.int _, .bl _], g => rcases hb with rfl | rfl <;> exact g.elim
  | [.int _, .str _], g => rcases hb with rfl | rfl <;> exact g.elim
  | [.int _, .tup _], g => rcases hb with rfl | rfl <;> exact g.elim
  | [.int _, .lst _], g => rcases hb with rfl | rfl <;> exact g.elim
  | [.int _, .scr _], g => rcases hb with rfl | rfl <;> exact g.elim
  | [.int _, .ref _], g => rcases hb with rfl | rfl <;> exact g.elim
  | [.int _, .dct _ _], g => rcases hb with rfl | rfl <;> exact g.elim
theorem bl_max (hc : X.calm = true) : CallR X (.builtin "max") (rDL X.K C (bltD .max)) := by
  intro pins s σ H xs us Q I r h
  obtain ⟨μ, S, ds, R, i, g⟩ := h
  obtain ⟨m, n, rfl⟩ := two_ints (.inl rfl) g
  obtain ⟨v, u, rfl, i1, i2⟩ := isL_two i
  cases i1; cases i2
  exact call_max2 hc pins s σ H _ us Q I r ⟨m, n, rfl, g.here R rfl⟩
theorem bl_min (hc : X.calm = true) : CallR X (.builtin "min") (rDL X.K C (bltD .min)) := by
  intro pins s σ H xs us Q I r h
  obtain ⟨μ, S, ds, R, i, g⟩ := h
  obtain ⟨m, n, rfl⟩ := two_ints (.inr rfl) g
  obtain ⟨v, u, rfl, i1, i2⟩ := isL_two i
  cases i1; cases i2
  exact call_min2 hc pins s σ H _ us Q I r ⟨m, n, rfl, g.here R rfl⟩
theorem bl_list : CallR X (.type "list") (rDL X.K C (bltD .list)) := by
  intro pins s σ H xs us Q I r h
  obtain ⟨μ, S, ds, R, i, g⟩ := h
  match ds, i, g with
  | [d], i, g =>
    obtain ⟨v, rfl, j⟩ := isL_one i
    simp only [bltD] at g
    cases e1 : seqOf S d with
    | none => rw [e1] at g; exact g.elim
    | some xs =>
      rw [e1] at g
      obtain ⟨a, vs, rfl, hq, l⟩ := R.seq j e1
      exact kno_call call_list_of pins s σ H _ us Q I r ⟨a, vs, rfl, hq, fun p np => g.newL R l np⟩
  | [], i, g => exact g.elim
  | a :: b :: c, i, g => exact g.elim
theorem bl_tuple : CallR X (.type "tuple") (rDL X.K C (bltD .tuple)) := by
  intro pins s σ H xs us Q I r h
  obtain ⟨μ, S, ds, R, i, g⟩ := h
  match ds, i, g with
  | [d], i, g =>
    obtain ⟨v, rfl, j⟩ := isL_one i
    simp only [bltD] at g
    cases e1 : seqOf S d with
    | none => rw [e1] at g; exact g.elim
    | some xs =>
      rw [e1] at g
      obtain ⟨a, vs, rfl, hq, l⟩ := R.seq j e1
      refine kno_call call_tuple_of pins s σ H _ us Q I r ⟨a, vs, rfl, ?_⟩
      rcases hq with hq | hq
      · exact .inl ⟨hq, fun p np => g.newT R l np⟩
      · exact .inr ⟨hq, fun _ => g.here R ⟨a, vs, rfl, hq, l⟩⟩
  | [], i, g => exact g.elim
  | a :: b :: c, i, g => exact g.elim
/-- repr of data -/
theorem repr_ok {Q : Value → Shared → Prop} {s : Shared} {v : Value} {p : PyData} {as : List Addr} (hg : X.A.guards = some []) (hu : X.A.units + 66 < cLine) (r : Reads s.heap v p as) (hs : p.showable = true) (hf : fit p = true) (hz : p.shown.length ≤ sz)
    (q : ∀ h' u tk, (∀ b o, s.heap.get? b = some o → h'.get? b = some o) → Q (.str p.shown u) { s with heap := h', toks := tk }) : wpAny (model X.prog X.w) X.A (call (.builtin "repr") [v]) Q X.xe s := by
  unfold fit at hf
  rw [Bool.and_eq_true] at hf
  have hd : p.depth ≤ 64 := of_decide_eq_true hf.2
  have hn : p.hasDict = false := PyData.hasDict_of_canLay p hf.1
  rw [← szl] at hz
  cases r with
  | none =>
    refine P.repr_of_none ?_
    have z := q s.heap s.toks (s.toks + 1) (fun _ _ e => e)
    simp only [PyData.shown] at z
    exact z
  | bool b =>
    refine P.repr_of_bool ?_
    have z := q s.heap s.toks (s.toks + 1) (fun _ _ e => e)
    simp only [PyData.shown] at z
    cases b <;> exact z
  | int i t =>
    refine P.repr_of_int (by simpa [PyData.showable] using hs) ?_
    have z := q s.heap s.toks (s.toks + 1) (fun _ _ e => e)
    simp only [PyData.shown] at z
    exact z
  | str x t =>
    have z := q s.heap s.toks (s.toks + 1) (fun _ _ e => e)
    simp only [PyData.shown] at z hz
    exact P.repr_of_str z hz
  | list h1 h2 h3 h4 => exact repr_of_reads' (Reads.list h1 h2 h3 h4) hs (PyData.noDict_hsm hn) hg (by omega) (fun _ _ e => e) q hz
  | tuple h1 h2 h3 h4 => exact repr_of_reads' (Reads.tuple h1 h2 h3 h4) hs (PyData.noDict_hsm hn) hg (by omega) (fun _ _ e => e) q hz
  | dict h1 => simp [PyData.canLay0] at hf
theorem bl_repr (hg : X.A.guards = some []) (hu : X.A.units + 66 < cLine) : CallR X (.builtin "repr") (rDL X.K C (bltD .repr)) := by
  intro pins s σ H xs us Q I r h
  obtain ⟨μ, S, ds, R, i, g⟩ := h
  match ds, i, g with
  | [d], i, g =>
    obtain ⟨v, rfl, j⟩ := isL_one i
    simp only [bltD] at g
    cases e1 : look S d with
    | none => rw [e1] at g; exact g.elim
    | some p =>
      rw [e1] at g
      dsimp only at g
      split at g
      · rename_i hc
        obtain ⟨u, rfl, ru⟩ := vals1 r
        obtain ⟨dp, sp⟩ := look_dp R j e1
        obtain ⟨as, rd⟩ := Dp.reads I p v u dp ru
        refine repr_ok hg hu rd hc.1 sp hc.2 fun h' t tk hk => ⟨.str p.shown, H, I.kept hk, ⟨t, rfl⟩, ?_⟩
        refine g.here R ?_
        show V.str _ = V.str _
        simp
      · exact g.elim
  | [], i, g => exact g.elim
  | a :: b :: c, i, g => exact g.elim

/-! ### methods -/
theorem mt_joinD : MtR X "str.join" (rDM X.K C (mthD .join)) := by
  intro pins s σ H x xs v us Q I rx rs h
  obtain ⟨μ, S, d, ds, R, i, l, g⟩ := h
  cases d with
  | str sep =>
    match ds, l, g with
    | [e], l, g =>
      obtain ⟨w, rfl, j⟩ := isL_one l
      cases i
      simp only [mthD] at g
      cases e1 : seqOf S e with
      | none => rw [e1] at g; exact g.elim
      | some xs =>
        rw [e1] at g
        dsimp only at g
        cases e2 : texts xs with
        | none => rw [e2] at g; exact g.elim
        | some ts =>
          rw [e2] at g
          dsimp only at g
          split at g
          · rename_i hz
            obtain ⟨a, vs, rfl, hq, l⟩ := R.seq j e1
            cases texts_isL e2 l
            refine mt_join pins s σ H _ _ v us Q I rx rs ⟨_, a, ts.map fun t => (⟨t.toArray⟩ : Str), rfl, rfl, hq, ?_, ?_⟩
            · have e3 : (ts.map fun t => (⟨t.toArray⟩ : Str)).map (·.length) = ts.map List.length := by
                rw [List.map_map]
                refine List.map_congr_left fun t _ => ?_
                simp [Str.length]
              rw [e3, List.length_map]
              simpa [Str.length] using hz
            · have z : Txt.join ⟨sep.toArray⟩ (ts.map fun t => (⟨t.toArray⟩ : Str)) = ⟨(joined sep ts).toArray⟩ := (beq_iff_eq.mp (PyProof.Rows.join_plain_closes _ _)).trans (joined_txt sep ts)
              rw [z]
              exact g.here R rfl
          · exact g.elim
    | [], l, g => exact g.elim
    | a :: b :: c, l, g => exact g.elim
  | _ => exact g.elim
theorem mt_appendD : MtR X "list.append" (rDM X.K C (mthD .append)) := by
  intro pins s σ H x xs v us Q I rx rs h
  obtain ⟨μ, S, d, ds, R, i, l, g⟩ := h
  cases d with
  | ref k =>
    match ds, l, g with
    | [e], l, g =>
      obtain ⟨w, rfl, j⟩ := isL_one l
      simp only [mthD] at g
      cases e1 : S[k]? with
      | none => simp only [e1] at g; exact g.elim
      | some o =>
        simp only [e1] at g
        cases o with
        | lst ys =>
          dsimp only at g
          split at g
          · rename_i hz
            obtain ⟨a, rfl, m, vs, hv, lv⟩ := R.at i e1
            have hm : a ∈ μ.l := List.mem_of_getElem? m
            refine kno_mt (show MtR X "list.append" rAppend from mt_append) pins s σ H _ _ v us Q I rx rs ⟨a, vs, w, rfl, rfl, hv, by rw [lv.length, szl]; exact hz, fun z => ?_⟩
            refine g _ _ _ (ext_write hm) (R.write m z ⟨vs ++ [w], upd_same, ?_⟩) rfl
            exact (lv.append (show IsL X.K μ H [e] [w] from ⟨w, [], rfl, j, rfl⟩)).mono R.toRep0 (ext_write hm)
          · exact g.elim
        | ins _ _ => exact g.elim
        | exc _ _ => exact g.elim
        | dct _ _ => exact g.elim
    | [], l, g => exact g.elim
    | a :: b :: c, l, g => exact g.elim
  | _ => exact g.elim
theorem look_list {K : PySem.W.Frag} {C : Nat → Addr} {μ : Mu} {H : Hp} {S : Sto} {d : D} {v : V} {ys : List PyData} (R : RepS K C μ S H) (i : Is K μ H d v) (e : look S d = some (.list ys)) : ∃ a vs, v = .ref a ∧ SqL K H a vs ∧ DpAll K H vs ys := by
  obtain ⟨h, _⟩ := look_dp R i e
  cases h with
  | lst q l => exact ⟨_, _, rfl, q, l⟩
theorem mt_countD (hu : X.A.units + 65 < cLine) : MtR X "list.count" (rDM X.K C (mthD .count)) := by
  intro pins s σ H x xs v us Q I rx rs h
  obtain ⟨μ, S, d, ds, R, i, l, g⟩ := h
  match ds, l, g with
  | [e], l, g =>
    obtain ⟨w, rfl, j⟩ := isL_one l
    simp only [mthD] at g
    cases e1 : look S d with
    | none => rw [e1] at g; exact g.elim
    | some p =>
      cases e2 : look S e with
      | none => rw [e1, e2] at g; cases p <;> exact g.elim
      | some z =>
        rw [e1, e2] at g
        cases p with
        | list ys =>
          dsimp only at g
          obtain ⟨a, vs, rfl, hq, dl⟩ := look_list R i e1
          obtain ⟨_, s1⟩ := look_dp R i e1
          obtain ⟨d2, s2⟩ := look_dp R j e2
          cases rx
          cases rs with
          | cons ry rt =>
            cases rt
            obtain ⟨its, rv, pl, hz⟩ := I.list hq
            obtain ⟨as, h4⟩ := Dp.readsAll I ys _ its dl rv
            obtain ⟨bs, r1⟩ := Dp.reads I z w _ d2 ry
            have hxs : PyData.canLayAll0 ys = true := SeqAt.canLay_of_shaped s1
            exact SeqAt.count_list_data (vs := its.toArray) pl.isList (by simpa using h4) r1 (PyData.plainAll_of_canLay0 _ hxs) (PyData.plain_of_canLay0 _ (SeqAt.canLay_of_shaped s2)) (PyProof.Rows.room_in_shaped s2 hu) ⟨.int _, H, I.tok _, ⟨_, rfl⟩, g.here R rfl⟩
        | _ => exact g.elim
  | [], l, g => exact g.elim
  | a :: b :: c, l, g => exact g.elim
theorem mt_indexDD (hu : X.A.units + 65 < cLine) : MtR X "list.index" (rDM X.K C (mthD .index)) := by
  intro pins s σ H x xs v us Q I rx rs h
  obtain ⟨μ, S, d, ds, R, i, l, g⟩ := h
  match ds, l, g with
  | [e], l, g =>
    obtain ⟨w, rfl, j⟩ := isL_one l
    simp only [mthD] at g
    cases e1 : look S d with
    | none => rw [e1] at g; exact g.elim
    | some p =>
      cases e2 : look S e with
      | none => rw [e1, e2] at g; cases p <;> exact g.elim
      | some z =>
        rw [e1, e2] at g
        cases p with
        | list ys =>
          dsimp only at g
          cases e3 : ys.findIdx? (fun y => PyData.eqv y z) with
          | none => rw [e3] at g; exact g.elim
          | some k =>
            rw [e3] at g
            obtain ⟨a, vs, rfl, hq, dl⟩ := look_list R i e1
            obtain ⟨d1, s1⟩ := look_dp R i e1
            obtain ⟨d2, s2⟩ := look_dp R j e2
            obtain ⟨h1, h2, h3⟩ := List.findIdx?_eq_some_iff_getElem.mp e3
            refine mt_indexD hu pins s σ H _ _ v us Q I rx rs ⟨a, w, z, ys, k, ys[k], rfl, rfl, d1, d2, s1, s2, List.getElem?_eq_getElem h1, h2, fun m z' hm hz' => ?_, g.here R rfl⟩
            obtain ⟨q1, q2⟩ := List.getElem?_eq_some_iff.mp hz'
            rw [← q2]
            simpa using h3 m hm
        | _ => exact g.elim
  | [], l, g => exact g.elim
  | a :: b :: c, l, g => exact g.elim
end
end SL
set_option Elab.async false
set_option linter.all false
set_option maxRecDepth 100000
set_option maxHeartbeats 1000000
/-! A5: the rules of expressions, lifted. -/
namespace SL
open PySem PySem.Spec L2

/-! ### looks at the text -/
def notStar : Expr → Bool
  | .Starred _ _ => false
  | _ => true
def notSet : Expr → Bool
  | .Set _ _ _ => false
  | _ => true
def notSlice : Expr → Bool
  | .Slice _ _ _ _ => false
  | _ => true
def plainBase : Expr → Bool
  | .Call _ [] [] _ => false
  | _ => true
def plainTest : Expr → Bool
  | .UnaryOp _ _ _ => false
  | .BoolOp _ _ _ => false
  | .IfExp _ _ _ _ => false
  | .Compare _ _ _ _ => false
  | _ => true
def notComp : Expr → Bool
  | .ListComp _ _ _ _ => false
  | .SetComp _ _ _ _ => false
  | .DictComp _ _ _ _ _ => false
  | _ => true
theorem star_cons {e : Expr} {es : List Expr} {env : Env} (h : notStar e = true) : starEach (e :: es) env = (false, eval e env) :: starEach es env := by
  cases e <;> first | rfl | cases h
def noStars (es : List Expr) : Bool := es.all notStar
theorem star_any {pos : Pos} {env : Env} : ∀ {es : List Expr}, noStars es = true → (backTo pos (starEach es env)).any (·.1) = false
  | [], _ => rfl
  | e :: es, h => by
    unfold noStars at h
    rw [List.all_cons, Bool.and_eq_true] at h
    rw [star_cons h.1]
    show (false || (backTo pos (starEach es env)).any (·.1)) = false
    rw [star_any h.2] <;> rfl
theorem star_all {pos : Pos} {env : Env} : ∀ {es : List Expr}, noStars es = true → (backTo pos (starEach es env)).all (fun x => !x.1) = true
  | [], _ => rfl
  | e :: es, h => by
    unfold noStars at h
    rw [List.all_cons, Bool.and_eq_true] at h
    rw [star_cons h.1]
    show (true && (backTo pos (starEach es env)).all (fun x => !x.1)) = true
    rw [star_all h.2] <;> rfl
theorem base_ok {o : Expr} {n : Str} {env : Env} {w : Sem Value} (h : plainBase o = true) : attributeBase o n env w = w := by
  unfold attributeBase
  split
  · cases h
  · rfl
theorem mark_ok {op : CmpOp} {b : Expr} (h : notSet b = true) : behindInMarks op b = false := by
  cases b <;> first | rfl | cases h
theorem ix_ok {b : Expr} (h : notSlice b = true) : PlainIx b := by
  intro o i
  cases b <;> first | rfl | cases h
theorem test_ok {e : Expr} {env : Env} (h : plainTest e = true) : ∀ whole, isTrue e env whole = (do let v ← whole; standAt e.pos; holding [v] (truthy v)) := by
  intro whole
  cases e <;> first | rfl | cases h
theorem set_ok {e : Expr} {env : Env} (h : notSet e = true) : ∀ x, foldedSetIterable e env x = pure x := by
  intro x
  cases e <;> first | rfl | cases h

section
variable {G : Gx} {σ : St} {μ : Mu} {H : Hp}
theorem liftA_bind {t : FS → Sto → Out (List D)} {Q : List V → Hp → Prop} {S : Sto} {f : FS} (R : RepS G.K G.C μ S H) (L : Sl G.K μ H f σ) {β : Type} {k : List D → Sto → Out β} {Good : Out β → Prop}
    (h : Good ((t f S).bind k)) (hx : ∀ c fs S', Good (.exc c fs S') → ∀ H' μ' dd, Ext μ H μ' H' → RepS G.K G.C μ' S' H' → XIs G.K μ' H' fs dd → G.W (.ref (G.C c)) dd σ H') (hb : ¬ Good .bad)
    (go : ∀ d S' v H' μ', t f S = .ok d S' → Ext μ H μ' H' → RepS G.K G.C μ' S' H' → IsL G.K μ' H' d v → Good (k d S') → Q v H') : liftA G t σ H Q := by
  refine ⟨μ, f, S, R, L, ?_⟩
  cases e : t f S with
  | ok d S' =>
    rw [e] at h
    exact fun v H' μ' x R' i => go d S' v H' μ' e x R' i h
  | exc c fs S' =>
    rw [e] at h
    exact hx c fs S' h
  | bad =>
    rw [e] at h
    exact hb h
/-- a pure operation's end -/
theorem GoodE.op {Q : VK} {o : Out D} (ne : ∀ c fs S', o ≠ .exc c fs S') (h : GoodE G σ μ H Q o) : GoodV G.K G.C μ H Q o := by
  cases o with
  | ok d S => exact h
  | exc c fs S => exact absurd rfl (ne c fs S)
  | bad => exact h
end

/-! ### no operation raises -/
theorem binD_ne (op : Bop) (a b : D) (S : Sto) : ∀ c fs S', binD op a b S ≠ .exc c fs S' := by
  intro c fs S' h
  unfold binD at h
  split at h <;> (try cases h) <;> (split at h <;> (try cases h)) <;> (split at h <;> cases h)
theorem cmpD_ne (op : Cop) (a b : D) (S : Sto) : ∀ c fs S', cmpD op a b S ≠ .exc c fs S' := by
  intro c fs S' h
  cases op <;> (simp only [cmpD, boolD] at h; split at h <;> cases h)
theorem catD_ne (a b : D) (S : Sto) : ∀ c fs S', catD a b S ≠ .exc c fs S' := by
  intro c fs S' h
  unfold catD at h
  repeat' (first | cases h | split at h)
theorem dsubD_ne (a b : D) (S : Sto) : ∀ c fs S', dsubD a b S ≠ .exc c fs S' := by
  intro c fs S' h
  unfold dsubD at h
  repeat' (first | cases h | split at h)
theorem subD_ne (a b : D) (S : Sto) : ∀ c fs S', subD a b S ≠ .exc c fs S' := by
  intro c fs S' h
  unfold subD at h
  repeat' (first | exact dsubD_ne _ _ _ _ _ _ h | cases h | split at h)
theorem slcD_ne (a : D) (l r : Option Int) (S : Sto) : ∀ c fs S', slcD a l r S ≠ .exc c fs S' := by
  intro c fs S' h
  unfold slcD at h
  repeat (first | cases h | split at h)
theorem bltD_ne (b : Blt) (a : List D) (S : Sto) : ∀ c fs S', bltD b a S ≠ .exc c fs S' := by
  intro c fs S' h
  unfold bltD at h
  repeat (first | cases h | split at h)
theorem mthD_ne (b : Mt) (o : D) (a : List D) (S : Sto) : ∀ c fs S', mthD b o a S ≠ .exc c fs S' := by
  intro c fs S' h
  unfold mthD at h
  repeat (first | cases h | split at h)

section
variable {X : Cx} {G : Gx}
/-! ### names, constants -/
theorem fe_var {i : Nat} {x : Str} {pos : Pos} (hN : X.N[i]? = some x) (hv : Vis X.env.scope x) (hd : (x == ("__debug__" : Str)) = false) (hc : (x == ("__classdict__" : Str)) = false) :
    PE X (.Name x pos) (lift G fun f S => match f[i]? with
      | some (some d) => .ok d S
      | _ => .bad) := by
  refine PE.imp (pe_var (i := i) hN hv hd hc) fun σ H Q h => ?_
  obtain ⟨μ, f, S, R, L, g⟩ := h
  dsimp only at g
  split at g
  · rename_i d e
    obtain ⟨v, e1, q⟩ := L.at_ i d e
    exact ⟨v, e1, g v H μ Ext.refl R q⟩
  · exact g.elim
theorem fe_const {e : Expr} {d : D} {v : V} (h : PE X e (tC v)) (i : ∀ μ H, Is G.K μ H d v) : PE X e (lift G fun _ S => .ok d S) :=
  PE.imp h fun σ H Q ⟨μ, f, S, R, L, g⟩ => g v H μ Ext.refl R (i μ H)

/-! ### two parts and an operation -/
theorem two_lift {g : D → D → Sto → Out D} {ta tb : FS → Sto → Out D} (ne : ∀ a b S c fs S', g a b S ≠ .exc c fs S') (σ : St) (H : Hp) (Q : VK)
    (h : lift G (fun f S => (ta f S).bind fun x S => (tb f S).bind fun y S => g x y S) σ H Q) : tOp (rD2 G.K G.C g) (lift G ta) (lift G tb) σ H Q := by
  obtain ⟨μ, f, S, R, L, h⟩ := h
  refine lift_bind R L (Good := GoodE G σ μ H Q) h (fun _ _ _ z => z) (fun z => z) fun d S1 v H1 μ1 e1 x1 R1 i1 h1 => ?_
  refine lift_bind R1 (L.mono R.toRep0 x1) (Good := GoodE G σ μ1 H1 Q) (GoodE.mono x1 h1) (fun _ _ _ z => z) (fun z => z) fun d2 S2 v2 H2 μ2 e2 x2 R2 i2 h2 => ?_
  exact ⟨μ2, S2, d, d2, R2, i1.mono R1.toRep0 x2, i2, GoodE.op (ne d d2 S2) (GoodE.mono x2 h2)⟩
theorem fe_bin {op : Operator} {g : D → D → Sto → Out D} {a b : Expr} {pos : Pos} {ta tb : FS → Sto → Out D} (ho : OpR X (binaryOp op) (rD2 G.K G.C g)) (ne : ∀ a b S c fs S', g a b S ≠ .exc c fs S') (ha : PE X a (lift G ta)) (hb : PE X b (lift G tb)) :
    PE X (.BinOp a op b pos) (lift G fun f S => (ta f S).bind fun x S => (tb f S).bind fun y S => g x y S) := PE.imp (pe_op ho ha hb) (two_lift ne)
theorem fe_cmp {op : CmpOp} {g : D → D → Sto → Out D} {a b : Expr} {pos : Pos} {ta tb : FS → Sto → Out D} (ho : OpR X (compareOp op) (rD2 G.K G.C g)) (ne : ∀ a b S c fs S', g a b S ≠ .exc c fs S') (ha : PE X a (lift G ta)) (hb : PE X b (lift G tb)) (hm : notSet b = true) :
    PE X (.Compare a [op] [b] pos) (lift G fun f S => (ta f S).bind fun x S => (tb f S).bind fun y S => g x y S) := PE.imp (pe_cmpR ho ha hb (mark_ok hm)) (two_lift ne)
theorem fe_sub {a b : Expr} {pos : Pos} {ta tb : FS → Sto → Out D} (k : G.K = X.K) (hu : X.A.units + 1 < cLine) (ha : PE X a (lift G ta)) (hb : PE X b (lift G tb)) (hs : notSlice b = true) :
    PE X (.Subscript a b pos) (lift G fun f S => (ta f S).bind fun x S => (tb f S).bind fun y S => subD x y S) :=
  PE.imp (pe_ix (r := rD2 G.K G.C subD) (by rw [k]; exact ix_D hu) ha hb (ix_ok hs)) (two_lift subD_ne)

/-! ### tests -/
/-- a test by its value -/
theorem test_of {t : FS → Sto → Out D} (σ : St) (H : Hp) (Q : Bool → Hp → Prop) (h : liftT G t σ H Q) : lift G t σ H (fun x H' => ∃ k, x = .bl k ∧ Q k H') := by
  obtain ⟨μ, f, S, R, L, g⟩ := h
  refine ⟨μ, f, S, R, L, ?_⟩
  cases e : t f S with
  | ok d S' =>
    rw [e] at g
    cases d with
    | bl b => exact fun v H' μ' x R' i => ⟨b, i, g H' μ' x R'⟩
    | _ => exact g.elim
  | exc c fs S' =>
    rw [e] at g
    exact g
  | bad =>
    rw [e] at g
    exact g
theorem ft_val {e : Expr} {t : FS → Sto → Out D} (h : PE X e (lift G t)) (hp : plainTest e = true) : PT X e (liftT G t) := PT.imp (pt_val h (test_ok hp)) test_of
theorem ft_cmp {op : CmpOp} {g : D → D → Sto → Out D} {a b : Expr} {pos : Pos} {ta tb : FS → Sto → Out D} (ho : OpR X (compareOp op) (rD2 G.K G.C g)) (ne : ∀ a b S c fs S', g a b S ≠ .exc c fs S') (ha : PE X a (lift G ta)) (hb : PE X b (lift G tb)) (hm : notSet b = true) :
    PT X (.Compare a [op] [b] pos) (liftT G fun f S => (ta f S).bind fun x S => (tb f S).bind fun y S => g x y S) :=
  PT.imp (pt_cmpR ho ha hb (mark_ok hm)) fun σ H Q h => two_lift ne σ H _ (test_of σ H Q h)

/-! ### is -/
theorem isND_v {K : PySem.W.Frag} {μ : Mu} {H : Hp} {d : D} {v : V} (i : Is K μ H d v) : decide (v = .non) = isND d := by
  cases d with
  | non => cases i; rfl
  | bl b => cases i; rfl
  | int b => cases i; rfl
  | str b => cases i; rfl
  | tup b => obtain ⟨a, vs, rfl, _⟩ := i; rfl
  | lst b => obtain ⟨a, vs, rfl, _⟩ := i; rfl
  | scr b => obtain ⟨a, rfl, _⟩ := i; rfl
  | ref b => obtain ⟨a, rfl, _⟩ := i; rfl
  | dct b c => obtain ⟨a, vs, rfl, _⟩ := i; rfl
theorem isN_lift {ta : FS → Sto → Out D} {h : D → Bool} {g : V → Bool} (hg : ∀ {μ : Mu} {H : Hp} {d : D} {v : V}, Is G.K μ H d v → g v = h d) (σ : St) (H : Hp) (Q : VK)
    (z : lift G (fun f S => (ta f S).bind fun x S => .ok (.bl (h x)) S) σ H Q) : lift G ta σ H (fun x H1 => Q (.bl (g x)) H1) := by
  obtain ⟨μ, f, S, R, L, z⟩ := z
  refine lift_bind R L (Good := GoodE G σ μ H Q) z (fun _ _ _ z => z) (fun z => z) fun d S1 v H1 μ1 e1 x1 R1 i1 h1 => ?_
  rw [hg i1]
  exact h1 _ H1 μ1 x1 R1 rfl
theorem fe_isN {a : Expr} {j : Nat} {p pos : Pos} {ta : FS → Sto → Out D} (ha : PE X a (lift G ta)) : PE X (.Compare a [.Is] [.Constant .none j p] pos) (lift G fun f S => (ta f S).bind fun x S => .ok (.bl (isND x)) S) :=
  PE.imp (pe_cmp (pc_isN ha)) fun σ H Q h => isN_lift (g := fun v => decide (v = .non)) isND_v σ H Q h
theorem fe_notN {a : Expr} {j : Nat} {p pos : Pos} {ta : FS → Sto → Out D} (ha : PE X a (lift G ta)) : PE X (.Compare a [.IsNot] [.Constant .none j p] pos) (lift G fun f S => (ta f S).bind fun x S => .ok (.bl (!isND x)) S) :=
  PE.imp (pe_cmp (pc_notN ha)) fun σ H Q h => isN_lift (g := fun v => !decide (v = .non)) (fun i => by rw [isND_v i]) σ H Q h
theorem ft_isN {a : Expr} {j : Nat} {p pos : Pos} {ta : FS → Sto → Out D} (ha : PE X a (lift G ta)) : PT X (.Compare a [.Is] [.Constant .none j p] pos) (liftT G fun f S => (ta f S).bind fun x S => .ok (.bl (isND x)) S) :=
  PT.imp (pt_cmp (pc_isN ha)) fun σ H Q h => isN_lift (g := fun v => decide (v = .non)) isND_v σ H _ (test_of σ H Q h)
theorem ft_notN {a : Expr} {j : Nat} {p pos : Pos} {ta : FS → Sto → Out D} (ha : PE X a (lift G ta)) : PT X (.Compare a [.IsNot] [.Constant .none j p] pos) (liftT G fun f S => (ta f S).bind fun x S => .ok (.bl (!isND x)) S) :=
  PT.imp (pt_cmp (pc_notN ha)) fun σ H Q h => isN_lift (g := fun v => !decide (v = .non)) (fun i => by rw [isND_v i]) σ H _ (test_of σ H Q h)
theorem isB_lift {neg b : Bool} {ta : FS → Sto → Out D} (σ : St) (H : Hp) (Q : VK) (z : lift G (fun f S => (ta f S).bind fun x S => if neg then notBD b x S else isBD b x S) σ H Q) :
    tOp (fun x y H Q => ∃ a b, x = .bl a ∧ y = .bl b ∧ Q (.bl (if neg then !decide (a = b) else decide (a = b))) H) (lift G ta) (tC (.bl b)) σ H Q := by
  obtain ⟨μ, f, S, R, L, z⟩ := z
  refine lift_bind R L (Good := GoodE G σ μ H Q) z (fun _ _ _ z => z) (fun z => z) fun d S1 v H1 μ1 e1 x1 R1 i1 h1 => ?_
  cases d with
  | bl k =>
    cases i1
    refine ⟨k, b, rfl, rfl, ?_⟩
    cases neg with
    | false => exact h1 _ H1 μ1 x1 R1 (by cases k <;> cases b <;> rfl)
    | true => exact h1 _ H1 μ1 x1 R1 (by cases k <;> cases b <;> rfl)
  | _ => cases neg <;> exact h1.elim
theorem fe_isB {a : Expr} {b : Bool} {j : Nat} {p pos : Pos} {ta : FS → Sto → Out D} (ha : PE X a (lift G ta)) : PE X (.Compare a [.Is] [.Constant (.bool b) j p] pos) (lift G fun f S => (ta f S).bind fun x S => isBD b x S) :=
  PE.imp (pe_cmpR op_is_bl ha pe_bl rfl) fun σ H Q h => isB_lift (neg := false) σ H Q h
theorem fe_notB {a : Expr} {b : Bool} {j : Nat} {p pos : Pos} {ta : FS → Sto → Out D} (ha : PE X a (lift G ta)) : PE X (.Compare a [.IsNot] [.Constant (.bool b) j p] pos) (lift G fun f S => (ta f S).bind fun x S => notBD b x S) :=
  PE.imp (pe_cmpR op_isnot_bl ha pe_bl rfl) fun σ H Q h => isB_lift (neg := true) σ H Q h
theorem ft_isB {a : Expr} {b : Bool} {j : Nat} {p pos : Pos} {ta : FS → Sto → Out D} (ha : PE X a (lift G ta)) : PT X (.Compare a [.Is] [.Constant (.bool b) j p] pos) (liftT G fun f S => (ta f S).bind fun x S => isBD b x S) :=
  PT.imp (pt_cmpR op_is_bl ha pe_bl rfl) fun σ H Q h => isB_lift (neg := false) σ H _ (test_of σ H Q h)
theorem ft_notB {a : Expr} {b : Bool} {j : Nat} {p pos : Pos} {ta : FS → Sto → Out D} (ha : PE X a (lift G ta)) : PT X (.Compare a [.IsNot] [.Constant (.bool b) j p] pos) (liftT G fun f S => (ta f S).bind fun x S => notBD b x S) :=
  PT.imp (pt_cmpR op_isnot_bl ha pe_bl rfl) fun σ H Q h => isB_lift (neg := true) σ H _ (test_of σ H Q h)

/-! ### and, or, not, if -/
variable {a b e : Expr} {ta tb tc : FS → Sto → Out D} {pos : Pos}
theorem fe_and {rest : List Expr} (ha : PE X a (lift G ta)) (hb : PE X (.BoolOp .And (b :: rest) pos) (lift G tb)) : PE X (.BoolOp .And (a :: b :: rest) pos) (lift G fun f S => (ta f S).bind fun x S => andD tb f x S) := by
  refine PE.imp (pe_and ha hb) fun σ H Q ⟨μ, f, S, R, L, z⟩ => ?_
  refine lift_bind R L (Good := GoodE G σ μ H Q) z (fun _ _ _ z => z) (fun z => z) fun d S1 v H1 μ1 e1 x1 R1 i1 h1 => ?_
  cases d with
  | bl k =>
    cases i1
    refine ⟨k, rfl, ?_⟩
    cases k with
    | true => exact ⟨μ1, f, S1, R1, L.mono R.toRep0 x1, GoodE.mono x1 h1⟩
    | false => exact h1 _ H1 μ1 x1 R1 rfl
  | _ => exact h1.elim
theorem fe_or {rest : List Expr} (ha : PE X a (lift G ta)) (hb : PE X (.BoolOp .Or (b :: rest) pos) (lift G tb)) : PE X (.BoolOp .Or (a :: b :: rest) pos) (lift G fun f S => (ta f S).bind fun x S => orD tb f x S) := by
  refine PE.imp (pe_or ha hb) fun σ H Q ⟨μ, f, S, R, L, z⟩ => ?_
  refine lift_bind R L (Good := GoodE G σ μ H Q) z (fun _ _ _ z => z) (fun z => z) fun d S1 v H1 μ1 e1 x1 R1 i1 h1 => ?_
  cases d with
  | bl k =>
    cases i1
    refine ⟨k, rfl, ?_⟩
    cases k with
    | false => exact ⟨μ1, f, S1, R1, L.mono R.toRep0 x1, GoodE.mono x1 h1⟩
    | true => exact h1 _ H1 μ1 x1 R1 rfl
  | _ => exact h1.elim
theorem fe_not (ha : PE X a (lift G ta)) : PE X (.UnaryOp .Not a pos) (lift G fun f S => (ta f S).bind fun x S => notD x S) := by
  refine PE.imp (pe_not ha) fun σ H Q ⟨μ, f, S, R, L, z⟩ => ?_
  refine lift_bind R L (Good := GoodE G σ μ H Q) z (fun _ _ _ z => z) (fun z => z) fun d S1 v H1 μ1 e1 x1 R1 i1 h1 => ?_
  cases d with
  | bl k =>
    cases i1
    exact ⟨k, rfl, h1 _ H1 μ1 x1 R1 rfl⟩
  | _ => exact h1.elim
theorem fe_neg (ha : PE X a (lift G ta)) : PE X (.UnaryOp .USub a pos) (lift G fun f S => (ta f S).bind fun x S => negD x S) := by
  refine PE.imp (pe_un un_neg ha) fun σ H Q ⟨μ, f, S, R, L, z⟩ => ?_
  refine lift_bind R L (Good := GoodE G σ μ H Q) z (fun _ _ _ z => z) (fun z => z) fun d S1 v H1 μ1 e1 x1 R1 i1 h1 => ?_
  cases d with
  | int k =>
    cases i1
    exact ⟨k, rfl, h1 _ H1 μ1 x1 R1 rfl⟩
  | _ => exact h1.elim
/-- one test, then the rest -/
theorem liftT_bind {t : FS → Sto → Out D} {σ : St} {H : Hp} {μ : Mu} {Q : Bool → Hp → Prop} {S : Sto} {f : FS} (R : RepS G.K G.C μ S H) (L : Sl G.K μ H f σ) {β : Type} {k : D → Sto → Out β} {Good : Out β → Prop}
    (h : Good ((t f S).bind k)) (hx : ∀ c fs S', Good (.exc c fs S') → ∀ H' μ' dd, Ext μ H μ' H' → RepS G.K G.C μ' S' H' → XIs G.K μ' H' fs dd → G.W (.ref (G.C c)) dd σ H') (hb : ¬ Good .bad)
    (hk : ∀ d S', (∀ b, d ≠ .bl b) → ¬ Good (k d S')) (go : ∀ b S' H' μ', Ext μ H μ' H' → RepS G.K G.C μ' S' H' → Good (k (.bl b) S') → Q b H') : liftT G t σ H Q := by
  refine ⟨μ, f, S, R, L, ?_⟩
  cases e : t f S with
  | ok d S' =>
    rw [e] at h
    by_cases hd : ∃ b, d = .bl b
    · obtain ⟨b, rfl⟩ := hd
      exact fun H' μ' x R' => go b S' H' μ' x R' h
    · exact absurd h (hk d S' fun b z => hd ⟨b, z⟩)
  | exc c fs S' =>
    rw [e] at h
    exact hx c fs S' h
  | bad =>
    rw [e] at h
    exact hb h
theorem andD_bool (f : FS) (d : D) (S : Sto) (h : ∀ b, d ≠ .bl b) : andD tb f d S = .bad := by
  cases d <;> first | rfl | exact absurd rfl (h _)
theorem orD_bool (f : FS) (d : D) (S : Sto) (h : ∀ b, d ≠ .bl b) : orD tb f d S = .bad := by
  cases d <;> first | rfl | exact absurd rfl (h _)
theorem iteD_bool (f : FS) (d : D) (S : Sto) (h : ∀ b, d ≠ .bl b) : iteD ta tb f d S = .bad := by
  cases d <;> first | rfl | exact absurd rfl (h _)
theorem notD_bool (d : D) (S : Sto) (h : ∀ b, d ≠ .bl b) : notD d S = .bad := by
  cases d <;> first | rfl | exact absurd rfl (h _)
theorem fw_and {rest : List Expr} (ha : PT X a (liftT G ta)) (hb : PW X (.BoolOp .And (b :: rest) pos) (liftT G tb)) : PW X (.BoolOp .And (a :: b :: rest) pos) (liftT G fun f S => (ta f S).bind fun x S => andD tb f x S) := by
  refine PW.imp (pw_and ha hb) fun σ H Q ⟨μ, f, S, R, L, z⟩ => ?_
  refine liftT_bind R L (Good := GoodT G σ μ H Q) z (fun _ _ _ z => z) (fun z => z) (fun d S' hd => by rw [andD_bool f d S' hd]; exact fun z => z) fun c S1 H1 μ1 x1 R1 h1 => ?_
  cases c with
  | true => exact ⟨μ1, f, S1, R1, L.mono R.toRep0 x1, GoodT.mono x1 h1⟩
  | false => exact h1 H1 μ1 x1 R1
theorem fw_or {rest : List Expr} (ha : PT X a (liftT G ta)) (hb : PW X (.BoolOp .Or (b :: rest) pos) (liftT G tb)) : PW X (.BoolOp .Or (a :: b :: rest) pos) (liftT G fun f S => (ta f S).bind fun x S => orD tb f x S) := by
  refine PW.imp (pw_or ha hb) fun σ H Q ⟨μ, f, S, R, L, z⟩ => ?_
  refine liftT_bind R L (Good := GoodT G σ μ H Q) z (fun _ _ _ z => z) (fun z => z) (fun d S' hd => by rw [orD_bool f d S' hd]; exact fun z => z) fun c S1 H1 μ1 x1 R1 h1 => ?_
  cases c with
  | false => exact ⟨μ1, f, S1, R1, L.mono R.toRep0 x1, GoodT.mono x1 h1⟩
  | true => exact h1 H1 μ1 x1 R1
theorem ft_not (ha : PT X a (liftT G ta)) : PT X (.UnaryOp .Not a pos) (liftT G fun f S => (ta f S).bind fun x S => notD x S) := by
  refine PT.imp (pt_not ha) fun σ H Q ⟨μ, f, S, R, L, z⟩ => ?_
  refine liftT_bind R L (Good := GoodT G σ μ H Q) z (fun _ _ _ z => z) (fun z => z) (fun d S' hd => by rw [notD_bool d S' hd]; exact fun z => z) fun c S1 H1 μ1 x1 R1 h1 => ?_
  exact h1 H1 μ1 x1 R1
theorem fe_ite {c : Expr} (hc : PT X c (liftT G tc)) (ha : PE X a (lift G ta)) (hb : PE X b (lift G tb)) : PE X (.IfExp c a b pos) (lift G fun f S => (tc f S).bind fun x S => iteD ta tb f x S) := by
  refine PE.imp (pe_ifExp hc ha hb) fun σ H Q ⟨μ, f, S, R, L, z⟩ => ?_
  refine liftT_bind R L (Good := GoodE G σ μ H Q) z (fun _ _ _ z => z) (fun z => z) (fun d S' hd => by rw [iteD_bool f d S' hd]; exact fun z => z) fun c S1 H1 μ1 x1 R1 h1 => ?_
  cases c with
  | true => exact ⟨μ1, f, S1, R1, L.mono R.toRep0 x1, GoodE.mono x1 h1⟩
  | false => exact ⟨μ1, f, S1, R1, L.mono R.toRep0 x1, GoodE.mono x1 h1⟩

/-! ### argument lists, displays -/
theorem fa_nil : PA X [] (liftA G fun _ S => .ok [] S) := PA.imp pa_nil fun σ H Q ⟨μ, f, S, R, L, z⟩ => z [] H μ Ext.refl R rfl
theorem fa_cons {es : List Expr} {t : FS → Sto → Out (List D)} (ha : PE X e (lift G ta)) (hr : PA X es (liftA G t)) (hs : notStar e = true) : PA X (e :: es) (liftA G fun f S => (ta f S).bind fun d S => (t f S).bind fun ds S => .ok (d :: ds) S) := by
  refine PA.imp (pa_cons ha hr (star_cons hs)) fun σ H Q ⟨μ, f, S, R, L, z⟩ => ?_
  refine lift_bind R L (Good := GoodA G σ μ H Q) z (fun _ _ _ z => z) (fun z => z) fun d S1 v H1 μ1 e1 x1 R1 i1 h1 => ?_
  refine liftA_bind R1 (L.mono R.toRep0 x1) (Good := GoodA G σ μ1 H1 Q) (GoodA.mono x1 h1) (fun _ _ _ z => z) (fun z => z) fun d2 S2 v2 H2 μ2 e2 x2 R2 i2 h2 => ?_
  exact h2 (v :: v2) H2 μ2 x2 R2 ⟨v, v2, rfl, i1.mono R1.toRep0 x2, i2⟩
theorem fe_tup {es : List Expr} {k : Nat} {t : FS → Sto → Out (List D)} (k0 : G.K = X.K) (h : PA X es (liftA G t)) : PE X (.Tuple es k pos) (lift G fun f S => (t f S).bind fun ds S => if ds.length ≤ sz then .ok (.tup ds) S else .bad) := by
  refine PE.imp (PE.kno (pe_tup h)) fun σ H Q ⟨μ, f, S, R, L, z⟩ => ?_
  refine liftA_bind R L (Good := GoodE G σ μ H Q) z (fun _ _ _ z => z) (fun z => z) fun ds S1 vs H1 μ1 e1 x1 R1 i1 h1 => ?_
  split at h1
  · rename_i hl
    refine ⟨by rw [i1.length, szl]; exact hl, fun p np => ?_⟩
    rw [← k0]
    exact GoodV.newT (show GoodV G.K G.C μ1 H1 Q (.ok (.tup ds) S1) from GoodE.mono x1 h1) R1 i1 np
  · exact h1.elim
/-- a list display, new -/
theorem fn_lst {es : List Expr} {t : FS → Sto → Out (List D)} (k0 : G.K = X.K) (h : PA X es (liftA G t)) : PE X (.List es pos) (liftN G fun f S => (t f S).bind fun ds S => if ds.length ≤ sz then .ok (.lst ds) S else .bad) := by
  refine PE.imp (PE.kno (pe_lst h)) fun σ H Q ⟨μ, f, S, R, L, z⟩ => ?_
  refine liftA_bind R L (Good := GoodN G σ μ H Q) z (fun _ _ _ z => z) (fun z => z) fun ds S1 vs H1 μ1 e1 x1 R1 i1 h1 => ?_
  split at h1
  · rename_i hl
    refine ⟨by rw [i1.length, szl]; exact hl, fun p np => ?_⟩
    rw [← k0]
    exact fun kz => h1 vs p H1 μ1 x1 R1 i1 np kz
  · exact h1.elim
/-- what is new may be had by value -/
theorem fe_ofN {t : FS → Sto → Out D} (ok : ∀ f S d S', t f S = .ok d S' → ∃ ds, d = .lst ds) (h : PE X e (liftN G t)) : PE X e (lift G t) := by
  refine PE.imp h fun σ H Q ⟨μ, f, S, R, L, z⟩ => ⟨μ, f, S, R, L, ?_⟩
  cases q : t f S with
  | ok d S' =>
    obtain ⟨ds, rfl⟩ := ok f S d S' q
    rw [q] at z
    exact fun vs p H1 μ1 x1 R1 i1 np kz => z _ _ _ (x1.trans (ext_alloc R1.toRep0 np)) (R1.alloc np kz) ⟨p, vs, rfl, R1.notin np, upd_same, i1.mono R1.toRep0 (ext_alloc R1.toRep0 np)⟩
  | exc c fs S' => rw [q] at z; exact z
  | bad => rw [q] at z; exact z
/-- .. or as one of the store -/
theorem fe_new {t : FS → Sto → Out D} (h : PE X e (liftN G t)) : PE X e (lift G fun f S => (t f S).bind fun d S => newD d S) := by
  refine PE.imp h fun σ H Q ⟨μ, f, S, R, L, z⟩ => ⟨μ, f, S, R, L, ?_⟩
  dsimp only at z
  cases q : t f S with
  | ok d S' =>
    rw [q] at z
    cases d with
    | lst ds =>
      refine fun vs p H1 μ1 x1 R1 i1 np kz => z _ _ _ (x1.trans (ext_own np)) (R1.push np kz ⟨vs, upd_same, i1.mono R1.toRep0 (ext_own np)⟩) ⟨p, rfl, ?_⟩
      show (μ1.l ++ [p])[S'.length]? = some p
      rw [← R1.len, List.getElem?_append_right (Nat.le_refl _)]
      simp
    | _ => exact z
  | exc c fs S' => rw [q] at z; exact z
  | bad => rw [q] at z; exact z
end
end SL
set_option Elab.async false
set_option linter.all false
set_option maxRecDepth 100000
set_option maxHeartbeats 1000000
/-! A6: calls, methods, isinstance, slices, what is walked, comprehensions. -/
namespace SL
open PySem PySem.Spec L2

section
variable {X : Cx} {G : Gx} {e : Expr} {es : List Expr} {t : FS → Sto → Out (List D)} {pos p : Pos}
/-! ### built-in functions -/
theorem call_lift {g : List D → Sto → Out D} (ne : ∀ a S c fs S', g a S ≠ .exc c fs S') (σ : St) (H : Hp) (Q : VK) (h : lift G (fun f S => (t f S).bind fun ds S => g ds S) σ H Q) : tCB (rDL G.K G.C g) (liftA G t) σ H Q := by
  obtain ⟨μ, f, S, R, L, h⟩ := h
  refine liftA_bind R L (Good := GoodE G σ μ H Q) h (fun _ _ _ z => z) (fun z => z) fun d S1 v H1 μ1 e1 x1 R1 i1 h1 => ?_
  exact ⟨μ1, S1, d, R1, i1, GoodE.op (ne d S1) (GoodE.mono x1 h1)⟩
theorem fe_blt {id : String} {x : Str} {b : Blt} (hc : CallR X (.builtin id) (rDL G.K G.C (bltD b))) (hg : Gl X x) (hm : X.mg x = none) (hv : bootBuiltins x = some (.builtin id)) (ha : PA X (e :: es) (liftA G t)) (hs : noStars (e :: es) = true) (hn : x ≠ "__name__") (hdb : (x == ("__debug__" : Str)) = false) :
    PE X (.Call (.Name x p) (e :: es) [] pos) (lift G fun f S => (t f S).bind fun ds S => bltD b ds S) := by
  unfold noStars at hs
  rw [List.all_cons, Bool.and_eq_true] at hs
  exact PE.imp (pe_callB hc hg hm hv ha hn hdb (star_cons hs.1) (star_any hs.2)) (call_lift (bltD_ne b))
theorem fe_bty {T : String} {x : Str} {b : Blt} (hc : CallR X (.type T) (rDL G.K G.C (bltD b))) (hg : Gl X x) (hm : X.mg x = none) (hv : bootBuiltins x = some (.type T)) (ha : PA X (e :: es) (liftA G t)) (hs : noStars (e :: es) = true) (hn : x ≠ "__name__") (hdb : (x == ("__debug__" : Str)) = false) :
    PE X (.Call (.Name x p) (e :: es) [] pos) (lift G fun f S => (t f S).bind fun ds S => bltD b ds S) := by
  unfold noStars at hs
  rw [List.all_cons, Bool.and_eq_true] at hs
  exact PE.imp (pe_callTy hc hg hm hv ha hn hdb (star_cons hs.1) (star_any hs.2)) (call_lift (bltD_ne b))
/-- list(..), new -/
theorem fn_list {x : Str} (k : G.K = X.K) (hg : Gl X x) (hm : X.mg x = none) (hv : bootBuiltins x = some (.type "list")) (ha : PA X (e :: es) (liftA G t)) (hs : noStars (e :: es) = true) (hn : x ≠ "__name__") (hdb : (x == ("__debug__" : Str)) = false) :
    PE X (.Call (.Name x p) (e :: es) [] pos) (liftN G fun f S => (t f S).bind fun ds S => bltD .list ds S) := by
  unfold noStars at hs
  rw [List.all_cons, Bool.and_eq_true] at hs
  refine PE.imp (PE.kno (pe_callTy call_list_of hg hm hv ha hn hdb (star_cons hs.1) (star_any hs.2))) fun σ H Q ⟨μ, f, S, R, L, h⟩ => ?_
  refine liftA_bind R L (Good := GoodN G σ μ H Q) h (fun _ _ _ z => z) (fun z => z) fun ds S1 vs H1 μ1 e1 x1 R1 i1 h1 => ?_
  match ds, i1, h1 with
  | [d], i1, h1 =>
    obtain ⟨v, rfl, j⟩ := isL_one i1
    simp only [bltD] at h1
    cases e2 : seqOf S1 d with
    | none => rw [e2] at h1; exact h1.elim
    | some xs =>
      rw [e2] at h1
      obtain ⟨a, us, rfl, hq, l⟩ := R1.seq j e2
      rw [← k]
      exact ⟨a, us, rfl, hq, fun p np kz => h1 us p H1 μ1 x1 R1 l np kz⟩
  | [], i1, h1 => exact h1.elim
  | a :: b :: c, i1, h1 => exact h1.elim

/-! ### methods -/
def mtT : Mt → String
  | .join => "str"
  | _ => "list"
theorem recv_ty {K : PySem.W.Frag} {C : Nat → Addr} {μ : Mu} {H : Hp} {S : Sto} {m : Mt} {d : D} {v : V} {T : String} (R : RepS K C μ S H) (i : Is K μ H d v) (h : recv m S d = true) (hT : T = mtT m) : tyV K T v H := by
  have hl : ∀ {d : D}, Is K μ H d v → (match d with
    | .lst _ => true
    | .ref k => match S[k]? with
      | some (.lst _) => true
      | _ => false
    | _ => false) = true → tyV K "list" v H := by
    intro d i h
    have : ∃ ds, items S d = some ds := by
      cases d with
      | lst ds => exact ⟨ds, rfl⟩
      | ref k =>
        cases e : S[k]? with
        | none => simp only [e] at h; cases h
        | some o =>
          simp only [e] at h
          cases o with
          | lst ds => exact ⟨ds, by simp only [items, e]⟩
          | ins _ _ => cases h
          | exc _ _ => cases h
          | dct _ _ => cases h
      | _ => cases h
    obtain ⟨ds, e⟩ := this
    obtain ⟨a, vs, rfl, q, _⟩ := R.items i e
    exact .inl ⟨rfl, vs, .inl (.inl q)⟩
  subst hT
  cases m with
  | join =>
    cases d with
    | str z => cases i; rfl
    | _ => cases h
  | _ => exact hl i h
theorem mth_lift {ta : FS → Sto → Out D} {m : Mt} {T : String} (hT : T = mtT m) (σ : St) (H : Hp) (Q : VK) (h : lift G (fun f S => (ta f S).bind fun x S => mthX m t f x S) σ H Q) : tBM G.K T (rDM G.K G.C (mthD m)) (lift G ta) (liftA G t) σ H Q := by
  obtain ⟨μ, f, S, R, L, h⟩ := h
  refine lift_bind R L (Good := GoodE G σ μ H Q) h (fun _ _ _ z => z) (fun z => z) fun d S1 v H1 μ1 e1 x1 R1 i1 h1 => ?_
  unfold mthX at h1
  split at h1
  · rename_i hr
    refine ⟨recv_ty R1 i1 hr hT, ?_⟩
    refine liftA_bind R1 (L.mono R.toRep0 x1) (Good := GoodE G σ μ1 H1 Q) (GoodE.mono x1 h1) (fun _ _ _ z => z) (fun z => z) fun d2 S2 v2 H2 μ2 e2 x2 R2 i2 h2 => ?_
    exact ⟨μ2, S2, d, d2, R2, i1.mono R1.toRep0 x2, i2, GoodE.op (mthD_ne m d d2 S2) (GoodE.mono x2 h2)⟩
  · exact h1.elim
theorem fe_mth {o : Expr} {ta : FS → Sto → Out D} {m : Mt} {T id : String} {name : Str} {apos cpos : Pos} (k : G.K = X.K) (pa : PlainAttrs T) (slot : Slot T name id) (hty : typeOf (.builtin id) = pure (.type "method_descriptor")) (hm : MtR X id (rDM X.K G.C (mthD m)))
    (hT : T = mtT m) (ho : PE X o (lift G ta)) (ha : PA X (e :: es) (liftA G t)) (hb : plainBase o = true) (hl : (apos.endLine == cpos.line) = true) (hs : noStars (e :: es) = true) (hf : decide ((e :: es).length < 30) = true) :
    PE X (.Call (.Attribute o name apos) (e :: es) [] cpos) (lift G fun f S => (ta f S).bind fun x S => mthX m t f x S) := by
  have hs2 := hs
  unfold noStars at hs2
  rw [List.all_cons, Bool.and_eq_true] at hs2
  refine PE.imp (pe_bm pa slot hty hm ho ha (base_ok hb) ?_ hl (star_cons hs2.1) (star_any hs2.2)) (by rw [← k]; exact mth_lift hT)
  rw [star_all hs]
  show (true && true && decide ((e :: es).length + 0 + 0 < 30)) = true
  simpa using hf

/-! ### calls of defs -/
structure FnG (P : Program) (w : World) (K : PySem.W.Frag) (mg : Str → Option Value) (base : Heap) (k : Nat) (f : Addr) (fd : FuncData) (ps : List Str) (sp : Sp) : Prop where
  len : ∀ vs H Q E, sp vs H Q E → vs.length = ps.length
  run : ∀ (A : Around) (outer : List Env) (s : Shared) (H : Hp) (args : Args) (us : List Value) (vs : List V) (Q : VK) (E : XK), A.guards = some [] → Room k A → Env0 P w K mg base A outer s H → BindsTo s fd args (ps.zip us) → Vals vs us → sp vs H Q E →
    codeAny (model P w) A (.call (.ref f) args) (CR (L2.CX P w) outer P w H s Q E) s
/-- what a def promises: its pure meaning -/
def spF (Φ : Nat → Option Def) (K : PySem.W.Frag) (C : Nat → Addr) (n g : Nat) : Sp := fun vs H Q E => ∃ μ S ds, RepS K C μ S H ∧ IsL K μ H ds vs ∧ (match callN Φ n g ds S with
  | .ok d S' => ∀ v H' μ', Ext μ H μ' H' → RepS K C μ' S' H' → Is K μ' H' d v → Q v H'
  | .exc c fs S' => ∀ H' μ' dd, Ext μ H μ' H' → RepS K C μ' S' H' → XIs K μ' H' fs dd → E (.ref (C c)) dd H'
  | .bad => False)
theorem runG {n : Nat} {f : Addr} {fd : FuncData} {ps : List Str} {sp : Sp} {pins : List (Addr × Obj)} {σ : St} {H : Hp} {s : Shared} {Q : VK} {us : List Value} {vs : List V} {W : WX} {dvs : List V} {dus : List Value} (F : FnG X.prog X.w X.K X.mg X.base n f fd ps sp) (hr : Room n X.A) (hg : X.A.guards = some []) (hb : Binds X.K fd ps dus) (hd : Vals dvs dus) (tk : Takes X W)
    (I : Inv X pins σ H s) (r : Vals vs us) (h : sp (vs ++ dvs) H Q fun cls d H' => W cls d σ H') : wpAny (model X.prog X.w) X.A (call (.ref f) us) (EP X pins σ Q) X.xe s := by
  have r2 : Vals (vs ++ dvs) (us ++ dus) := r.append hd
  have hl : (us ++ dus).length = ps.length := by rw [← r2.length]; exact F.len _ _ _ _ h
  refine wpAny_call (codeAny_mono (F.run X.A X.stack s H ⟨us, []⟩ (us ++ dus) (vs ++ dvs) Q _ hg hr I.env0 (hb s us I.kIn hl) r2 h) fun r s' hq => ?_)
  cases r with
  | error e => exact tk _ _ (XE.of_call I (fun _ _ _ z => z) hq)
  | ok fl =>
    cases fl with
    | ret u => exact I.after hq
    | next => exact False.elim hq
    | brk => exact False.elim hq
    | cont => exact False.elim hq
theorem fe_call {Φ : Nat → Option Def} {n g : Nat} {f : Addr} {fd : FuncData} {ps : List Str} {x : Str} (k : G.K = X.K) (F : FnG X.prog X.w X.K X.mg X.base n f fd ps (spF Φ X.K G.C n g)) (hr : Room n X.A) (hgd : X.A.guards = some []) (hg : Gl X x) (hm : X.mg x = some (.ref f)) (hk : PySem.W.keepIn X.K (.ref f) = true) (hb : Binds X.K fd ps []) (tk : Takes X G.W)
    (ha : PA X (e :: es) (liftA G t)) (hs : noStars (e :: es) = true) (hdb : (x == ("__debug__" : Str)) = false) :
    PE X (.Call (.Name x p) (e :: es) [] pos) (lift G fun f S => (t f S).bind fun ds S => callN Φ n g ds S) := by
  refine ⟨fun pins s σ H Q I h => ?_⟩
  obtain ⟨μ, f, S, R, L, h⟩ := h
  have la : liftA G t σ H (fun vs H1 => spF Φ X.K G.C n g vs H1 Q fun cls d H' => G.W cls d σ H') := by
    refine liftA_bind R L (Good := GoodE G σ μ H Q) h (fun _ _ _ z => z) (fun z => z) fun ds S1 vs H1 μ1 e1 x1 R1 i1 h1 => ?_
    rw [← k]
    refine ⟨μ1, S1, ds, R1, i1, ?_⟩
    have z := GoodE.mono x1 h1
    cases q : callN Φ n g ds S1 with
    | ok d S' => rw [q] at z; exact z
    | exc c fs S' => rw [q] at z; exact z
    | bad => rw [q] at z; exact z
  refine wpAny_Call_Name_kw (ld_glob I hg hm ?_ hdb)
  unfold noStars at hs
  rw [List.all_cons, Bool.and_eq_true] at hs
  refine PySem.W.callWith_K (h₀ := X.base) I.ok.mod.kin hk (thn (ha.run pos pins s σ H _ I la) fun us s1 ⟨vs, H1, I1, r, q⟩ => ⟨I1.kIn, ?_⟩) (star_cons hs.1) (star_any hs.2)
  exact runG (dvs := []) (dus := []) F hr hgd hb .nil tk I1 r (by rw [List.append_nil]; exact q)

theorem fe_callD {Φ : Nat → Option Def} {n g : Nat} {f : Addr} {fd : FuncData} {ps : List Str} {x : Str} {dus : List Value} (k : G.K = X.K) (F : FnG X.prog X.w X.K X.mg X.base n f fd ps (spF Φ X.K G.C n g)) (hr : Room n X.A) (hgd : X.A.guards = some []) (hg : Gl X x) (hm : X.mg x = some (.ref f)) (hk : PySem.W.keepIn X.K (.ref f) = true) (hb : Binds X.K fd ps dus) {a : Addr} (hv : Vals [.ref a] dus) (hq : ∀ H, SqT X.K H a []) (tk : Takes X G.W)
    (ha : PA X (e :: es) (liftA G t)) (hs : noStars (e :: es) = true) (hdb : (x == ("__debug__" : Str)) = false) :
    PE X (.Call (.Name x p) (e :: es) [] pos) (lift G fun f S => (t f S).bind fun ds S => callN Φ n g (ds ++ [.tup []]) S) := by
  refine ⟨fun pins s σ H Q I h => ?_⟩
  obtain ⟨μ, f, S, R, L, h⟩ := h
  have la : liftA G t σ H (fun vs H1 => spF Φ X.K G.C n g (vs ++ [.ref a]) H1 Q fun cls d H' => G.W cls d σ H') := by
    refine liftA_bind R L (Good := GoodE G σ μ H Q) h (fun _ _ _ z => z) (fun z => z) fun ds S1 vs H1 μ1 e1 x1 R1 i1 h1 => ?_
    rw [← k]
    refine ⟨μ1, S1, ds ++ [.tup []], R1, i1.append (show IsL G.K μ1 H1 [.tup []] [.ref a] from ⟨.ref a, [], rfl, ⟨a, [], rfl, by rw [k]; exact hq H1, rfl⟩, rfl⟩), ?_⟩
    have z := GoodE.mono x1 h1
    cases q : callN Φ n g (ds ++ [.tup []]) S1 with
    | ok d S' => rw [q] at z; exact z
    | exc c fs S' => rw [q] at z; exact z
    | bad => rw [q] at z; exact z
  refine wpAny_Call_Name_kw (ld_glob I hg hm ?_ hdb)
  unfold noStars at hs
  rw [List.all_cons, Bool.and_eq_true] at hs
  refine PySem.W.callWith_K (h₀ := X.base) I.ok.mod.kin hk (thn (ha.run pos pins s σ H _ I la) fun us s1 ⟨vs, H1, I1, r, q⟩ => ⟨I1.kIn, ?_⟩) (star_cons hs.1) (star_any hs.2)
  exact runG (dvs := [.ref a]) (dus := dus) F hr hgd hb hv tk I1 r q

/-! ### slices -/
def GoodO (G : Gx) (σ : St) (μ : Mu) (H : Hp) (Q : Option Int → Hp → Prop) : Out (Option Int) → Prop
  | .ok o S' => ∀ H' μ', Ext μ H μ' H' → RepS G.K G.C μ' S' H' → Q o H'
  | .exc c fs S' => ∀ H' μ' dd, Ext μ H μ' H' → RepS G.K G.C μ' S' H' → XIs G.K μ' H' fs dd → G.W (.ref (G.C c)) dd σ H'
  | .bad => False
def liftO (G : Gx) (t : FS → Sto → Out (Option Int)) : TO := fun σ H Q => ∃ μ f S, RepS G.K G.C μ S H ∧ Sl G.K μ H f σ ∧ GoodO G σ μ H Q (t f S)
theorem PO.imp {e : Option Expr} {t t' : TO} (h : PO X e t) (w : ∀ σ H Q, t' σ H Q → t σ H Q) : PO X e t' :=
  ⟨fun pins s σ H Q I q => h.run pins s σ H Q I (w σ H Q q)⟩
theorem fo_none : PO X none (liftO G fun _ S => .ok none S) := PO.imp po_none fun σ H Q ⟨μ, f, S, R, L, z⟩ => z H μ Ext.refl R
theorem fo_some {ta : FS → Sto → Out D} (ha : PE X e (lift G ta)) : PO X (some e) (liftO G fun f S => (ta f S).bind fun d S => bndD d S) := by
  refine PO.imp (po_some ha) fun σ H Q ⟨μ, f, S, R, L, z⟩ => ?_
  refine lift_bind R L (Good := GoodO G σ μ H Q) z (fun _ _ _ z => z) (fun z => z) fun d S1 v H1 μ1 e1 x1 R1 i1 h1 => ?_
  cases d with
  | int i => exact ⟨i, i1, h1 H1 μ1 x1 R1⟩
  | _ => exact h1.elim
theorem liftO_bind {t : FS → Sto → Out (Option Int)} {σ : St} {H : Hp} {μ : Mu} {Q : Option Int → Hp → Prop} {S : Sto} {f : FS} (R : RepS G.K G.C μ S H) (L : Sl G.K μ H f σ) {β : Type} {k : Option Int → Sto → Out β} {Good : Out β → Prop}
    (h : Good ((t f S).bind k)) (hx : ∀ c fs S', Good (.exc c fs S') → ∀ H' μ' dd, Ext μ H μ' H' → RepS G.K G.C μ' S' H' → XIs G.K μ' H' fs dd → G.W (.ref (G.C c)) dd σ H') (hb : ¬ Good .bad)
    (go : ∀ d S' H' μ', Ext μ H μ' H' → RepS G.K G.C μ' S' H' → Good (k d S') → Q d H') : liftO G t σ H Q := by
  refine ⟨μ, f, S, R, L, ?_⟩
  cases e : t f S with
  | ok d S' =>
    rw [e] at h
    exact fun H' μ' x R' => go d S' H' μ' x R' h
  | exc c fs S' =>
    rw [e] at h
    exact hx c fs S' h
  | bad =>
    rw [e] at h
    exact hb h
theorem fe_slc {a : Expr} {lo hi : Option Expr} {ta : FS → Sto → Out D} {tl th : FS → Sto → Out (Option Int)} {p2 : Pos} (k : G.K = X.K) (ha : PE X a (lift G ta)) (hl : PO X lo (liftO G tl)) (hh : PO X hi (liftO G th)) :
    PE X (.Subscript a (.Slice lo hi none p2) pos) (lift G fun f S => (ta f S).bind fun x S => (tl f S).bind fun l S => (th f S).bind fun h S => slcD x l h S) := by
  refine PE.imp (pe_slice (r := rSlD G.K G.C) (by rw [k]; exact sl_D) ha hl hh) fun σ H Q ⟨μ, f, S, R, L, z⟩ => ?_
  refine lift_bind R L (Good := GoodE G σ μ H Q) z (fun _ _ _ z => z) (fun z => z) fun d S1 v H1 μ1 e1 x1 R1 i1 h1 => ?_
  refine liftO_bind R1 (L.mono R.toRep0 x1) (Good := GoodE G σ μ1 H1 Q) (GoodE.mono x1 h1) (fun _ _ _ z => z) (fun z => z) fun l S2 H2 μ2 x2 R2 h2 => ?_
  refine liftO_bind R2 ((L.mono R.toRep0 x1).mono R1.toRep0 x2) (Good := GoodE G σ μ2 H2 Q) (GoodE.mono x2 h2) (fun _ _ _ z => z) (fun z => z) fun u S3 H3 μ3 x3 R3 h3 => ?_
  exact ⟨μ3, S3, d, R3, (i1.mono R1.toRep0 x2).mono R2.toRep0 x3, GoodE.op (slcD_ne d l u S3) (GoodE.mono x3 h3)⟩
end

/-! ### isinstance -/
section
variable {K : PySem.W.Frag} {C : Nat → Addr} {μ : Mu} {H : Hp} {S : Sto}
/-- the built-in type of a datum -/
def tyN (S : Sto) : D → Option String
  | .non => some "NoneType"
  | .bl _ => some "bool"
  | .int _ => some "int"
  | .str _ => some "str"
  | .tup _ => some "tuple"
  | .lst _ => some "list"
  | .scr _ => some "list"
  | .dct _ _ => none
  | .ref k => match S[k]? with
    | some (.lst _) => some "list"
    | _ => none
theorem ty_of (R : RepS K C μ S H) {d : D} {v : V} {T : String} (i : Is K μ H d v) (h : tyN S d = some T) : TyX K H v (.type T) := by
  cases d with
  | non => cases i; cases h; exact .base .non
  | bl b => cases i; cases h; exact .base (.bl b)
  | int b => cases i; cases h; exact .base (.int b)
  | str b => cases i; cases h; exact .base (.str _)
  | tup ds =>
    obtain ⟨a, vs, rfl, q, l⟩ := i
    cases h
    rcases q with (q | ⟨o, q⟩) | ⟨o, its, n, hk, hc, _⟩
    · exact .base (.tup q)
    · exact .fTuple q
    · exact .kTuple hk hc
  | lst ds =>
    obtain ⟨a, vs, rfl, _, q, l⟩ := i
    cases h
    exact .base (.lst q)
  | scr ns =>
    obtain ⟨a, rfl, q⟩ := i
    cases h
    rcases q with ⟨o, q⟩ | ⟨o, its, n, hk, hc, _⟩
    · exact .base (.frz q)
    · exact .kList hk hc
  | dct _ _ => cases h
  | ref k =>
    unfold tyN at h
    cases e : S[k]? with
    | none => simp only [e] at h; cases h
    | some o =>
      simp only [e] at h
      cases o with
      | lst ds =>
        cases h
        obtain ⟨a, rfl, _, vs, q, _⟩ := R.at i e
        exact .base (.lst q)
      | ins _ _ => cases h
      | exc _ _ => cases h
      | dct _ _ => cases h
end
theorem tyx_upd {K : PySem.W.Frag} {H : Hp} {p : Addr} {o : HO} {v : V} {t : Value} (n : H p = none) (h : TyX K H v t) : TyX K (upd H p o) v t := by
  have u : ∀ {a : Addr} {x : HO}, H a = some x → upd H p o a = some x := fun e => by rw [upd_ne (ne_of_none e n)]; exact e
  cases h with
  | base b =>
    cases b with
    | non => exact .base .non
    | bl y => exact .base (.bl y)
    | int y => exact .base (.int y)
    | str y => exact .base (.str y)
    | flt y => exact .base (.flt y)
    | lst e => exact .base (.lst (u e))
    | frz e => exact .base (.frz (u e))
    | tup e => exact .base (.tup (u e))
    | dK e => exact .base (.dK (u e))
    | dT e => exact .base (.dT (u e))
    | ins e cl ha hn htk hm => exact .base (.ins (u e) cl ha hn htk hm)
  | byt y => exact .byt y
  | set e => exact .set (u e)
  | kList e c => exact .kList e c
  | kTuple e c => exact .kTuple e c
  | kDict e c => exact .kDict e c
  | fTuple e => exact .fTuple (u e)
  | fDict e => exact .fDict (u e)
def tyS : Ty → Option String
  | .str => some "str"
  | .int => some "int"
  | .bool => some "bool"
  | .tup => some "tuple"
  | .lst => some "list"
  | _ => none
/-- a built-in type asked of a datum -/
theorem kit_data {K : PySem.W.Frag} {S : Sto} {d : D} {t : Ty} {U : String} {b : Bool} (h2 : tyS t = some U) (h3 : isTy S t d = some b) : ∃ T, tyN S d = some T ∧ PySem.W.kitOne K (.type T) (.type U) = some b := by
  have h : ∃ T, tyN S d = some T ∧ kitB T U = some b := by
    by_cases hd : ∃ k, d = .ref k
    · obtain ⟨k, rfl⟩ := hd
      cases e : S[k]? with
      | none => simp only [isTy, e] at h3; cases h3
      | some o =>
        cases o with
        | lst ds =>
          refine ⟨"list", by simp only [tyN, e], ?_⟩
          simp only [isTy, e] at h3
          cases t <;> first | (cases h2; cases h3; decide +kernel) | cases h2
        | ins _ _ => simp only [isTy, e] at h3; cases t <;> first | cases h2; done | cases h3
        | exc _ fs => simp only [isTy, e] at h3; cases t <;> first | cases h2; done | (cases fs <;> cases h3)
        | dct _ _ => simp only [isTy, e] at h3; cases t <;> first | cases h2; done | cases h3
    · cases t <;> first | cases h2 | skip
      all_goals (cases d <;> first | exact absurd ⟨_, rfl⟩ hd | (cases h3; done) | (cases h3; exact ⟨_, rfl, by decide +kernel⟩))
  obtain ⟨T, e, q⟩ := h
  exact ⟨T, e, kit_ty q⟩
theorem kit_datas {K : PySem.W.Frag} {S : Sto} {d : D} {T : String} (hT : tyN S d = some T) : ∀ {ts : List Ty} {Us : List String} {b : Bool}, ts.map tyS = Us.map some → isTys S d ts = some b → PySem.W.kitAny K (.type T) (Us.map Value.type) = some b
  | [], Us, b, h2, h3 => by
    cases Us with
    | nil => cases h3; exact kitAny_nil
    | cons _ _ => cases h2
  | t :: ts, Us, b, h2, h3 => by
    cases Us with
    | nil => cases h2
    | cons U Us =>
      rw [List.map_cons, List.map_cons] at h2
      injection h2 with e1 e2
      unfold isTys at h3
      cases q1 : isTy S t d with
      | none => rw [q1] at h3; cases h3
      | some x =>
        cases q2 : isTys S d ts with
        | none => rw [q1, q2] at h3; cases h3
        | some y =>
          rw [q1, q2] at h3
          cases h3
          obtain ⟨T', e3, e4⟩ := kit_data (K := K) e1 q1
          rw [hT] at e3
          cases e3
          rw [List.map_cons]
          refine kitAny_cons e4 (fun e => ?_) (fun e => by rw [e]; rfl)
          rw [e]
          exact kit_datas hT e2 q2
section
variable {X : Cx} {G : Gx} {a : Expr} {ta : FS → Sto → Out D} {pos p p1 p2 : Pos}
theorem fe_isi1 {t : Ty} {U : String} {y : Str} (k : G.K = X.K) (hU : tyS t = some U) (ha : PE X a (lift G ta)) (hs : notStar a = true) (hg : Gl X "isinstance") (hm : X.mg "isinstance" = none) (hgy : Gl X y) (hmy : X.mg y = none) (hby : bootBuiltins y = some (.type U)) (hny : y ≠ "__name__") (hdy : (y == ("__debug__" : Str)) = false) :
    PE X (.Call (.Name "isinstance" p) [a, .Name y p1] [] pos) (lift G fun f S => (ta f S).bind fun x S => isiD [t] x S) := by
  have h2 : PE X (.Name y p1) (tC (.ty U)) := pe_bltn hgy hmy hby rfl hny hdy
  refine PE.imp (pe_callB call_isi hg hm PyProof.Rows.boot_isinstance (pa_cons ha (pa_cons h2 pa_nil) (star_cons hs)) (by decide) (by decide) (star_cons hs)) fun σ H Q ⟨μ, f, S, R, L, z⟩ => ?_
  refine lift_bind R L (Good := GoodE G σ μ H Q) z (fun _ _ _ z => z) (fun z => z) fun d S1 v H1 μ1 e1 x1 R1 i1 h1 => ?_
  unfold isiD at h1
  cases q : isTys S1 d [t] with
  | none => rw [q] at h1; exact h1.elim
  | some b =>
    rw [q] at h1
    have q' : isTy S1 t d = some b := by
      unfold isTys at q
      cases q1 : isTy S1 t d with
      | none => rw [q1] at q; cases q
      | some x =>
        rw [q1] at q
        cases q
        simp
    obtain ⟨T, e2, e3⟩ := kit_data (K := X.K) hU q'
    have ty := ty_of R1 i1 e2
    rw [k] at ty
    exact ⟨v, .ty U, .type T, .type U, b, rfl, .ty U, ty, e3, h1 _ H1 μ1 x1 R1 rfl⟩
/-- isinstance(a, (T1, T2)) -/
theorem fe_isi2 {t1 t2 : Ty} {U1 U2 : String} {y1 y2 : Str} {kk : Nat} {tp q1 q2 : Pos} (k : G.K = X.K) (hU1 : tyS t1 = some U1) (hU2 : tyS t2 = some U2) (ha : PE X a (lift G ta)) (hs : notStar a = true) (hg : Gl X "isinstance") (hm : X.mg "isinstance" = none)
    (hg1 : Gl X y1) (hm1 : X.mg y1 = none) (hb1 : bootBuiltins y1 = some (.type U1)) (hn1 : y1 ≠ "__name__") (hd1 : (y1 == ("__debug__" : Str)) = false)
    (hg2 : Gl X y2) (hm2 : X.mg y2 = none) (hb2 : bootBuiltins y2 = some (.type U2)) (hn2 : y2 ≠ "__name__") (hd2 : (y2 == ("__debug__" : Str)) = false) :
    PE X (.Call (.Name "isinstance" p) [a, .Tuple [.Name y1 q1, .Name y2 q2] kk tp] [] pos) (lift G fun f S => (ta f S).bind fun x S => isiD [t1, t2] x S) := by
  have h1 : PE X (.Name y1 q1) (tC (.ty U1)) := pe_bltn hg1 hm1 hb1 rfl hn1 hd1
  have h2 : PE X (.Name y2 q2) (tC (.ty U2)) := pe_bltn hg2 hm2 hb2 rfl hn2 hd2
  refine PE.imp (PE.kno (pe_callB call_isiT hg hm PyProof.Rows.boot_isinstance (pa_cons ha (pa_cons (pe_tup (pa_cons h1 (pa_cons h2 pa_nil))) pa_nil) (star_cons hs)) (by decide) (by decide) (star_cons hs))) fun σ H Q ⟨μ, f, S, R, L, z⟩ => ?_
  refine lift_bind R L (Good := GoodE G σ μ H Q) z (fun _ _ _ z => z) (fun z => z) fun d S1 v H1 μ1 e1 x1 R1 i1 h1 => ?_
  refine ⟨by show 2 ≤ sizeLine; decide, fun tp np => ?_⟩
  unfold isiD at h1
  cases q : isTys S1 d [t1, t2] with
  | none => rw [q] at h1; exact h1.elim
  | some b =>
    rw [q] at h1
    have hT : ∃ T, tyN S1 d = some T := by
      unfold isTys at q
      cases q1 : isTy S1 t1 d with
      | none => rw [q1] at q; cases q
      | some x =>
        obtain ⟨T, e2, _⟩ := kit_data (K := X.K) hU1 q1
        exact ⟨T, e2⟩
    obtain ⟨T, hT⟩ := hT
    have e3 : PySem.W.kitAny X.K (.type T) [.type U1, .type U2] = some b := kit_datas (Us := [U1, U2]) hT (by simp [hU1, hU2]) q
    have ty : TyX G.K (upd H1 tp (.tup [.ty U1, .ty U2])) v (.type T) := tyx_upd np (ty_of R1 i1 hT)
    rw [k] at ty
    refine ⟨v, tp, [.ty U1, .ty U2], .type T, _, b, rfl, upd_same, .cons (.ty U1) (.cons (.ty U2) .nil), ty, e3, fun kz => ?_⟩
    rw [← k] at kz
    exact h1 _ _ μ1 (x1.trans (ext_alloc R1.toRep0 np)) (R1.alloc np kz) rfl
end
end SL
set_option Elab.async false
set_option linter.all false
set_option maxRecDepth 100000
set_option maxHeartbeats 1000000
/-! A7: what is walked; targets; comprehensions; statements. -/
namespace SL
open PySem PySem.Spec L2

/-- the walk J yields the items of src, as long as the store is as src says -/
structure Walk (K : PySem.W.Frag) (C : Nat → Addr) (μ₀ : Mu) (H₀ : Hp) (J : L2.It) (src : Src) : Prop where
  len : src.xs.length ≤ sizeLine
  stop : ∀ i μ S H, Grow μ₀ H₀ μ H → Rep0 K C μ S H → Chk src.chk S → src.xs.length ≤ i → J.stop i H
  go : ∀ i μ S H d, Grow μ₀ H₀ μ H → Rep0 K C μ S H → Chk src.chk S → src.xs[i]? = some d → J.go i H
  yld : ∀ i μ S H d x H', Grow μ₀ H₀ μ H → Rep0 K C μ S H → Chk src.chk S → src.xs[i]? = some d → J.yld i H x H' → H' = H ∧ Is K μ H d x
def GoodI (G : Gx) (σ : St) (μ : Mu) (H : Hp) (Q : L2.It → Hp → Prop) : Out Src → Prop
  | .ok src S' => ∀ J H' μ', Ext μ H μ' H' → RepS G.K G.C μ' S' H' → Walk G.K G.C μ' H' J src → Q J H'
  | .exc c fs S' => ∀ H' μ' dd, Ext μ H μ' H' → RepS G.K G.C μ' S' H' → XIs G.K μ' H' fs dd → G.W (.ref (G.C c)) dd σ H'
  | .bad => False
def liftI (G : Gx) (t : FS → Sto → Out Src) : TI := fun σ H Q => ∃ μ f S, RepS G.K G.C μ S H ∧ Sl G.K μ H f σ ∧ GoodI G σ μ H Q (t f S)
section
variable {X : Cx} {G : Gx} {tg e a b : Expr} {ta tb : FS → Sto → Out D} {pos p : Pos}
theorem PI.imp {t t' : TI} (h : PI X tg e t) (w : ∀ σ H Q, t' σ H Q → t σ H Q) : PI X tg e t' :=
  ⟨fun pins s σ H Q I q => h.run pins s σ H Q I (w σ H Q q)⟩
theorem get_map_int {ns : List Int} {i : Nat} {d : D} (h : (ns.map D.int)[i]? = some d) : ∃ n, ns[i]? = some n ∧ d = .int n := by
  rw [List.getElem?_map] at h
  cases e : ns[i]? with
  | none => rw [e] at h; cases h
  | some n => rw [e] at h; cases h; exact ⟨n, rfl, rfl⟩
/-- a value walked: a list, a tuple, a text -/
theorem fi_val (k : G.K = X.K) (he : PE X e (lift G ta)) : PI X tg e (liftI G fun f S => (ta f S).bind fun d S => valD d S) := by
  refine ⟨fun pins s σ H Q I ⟨μ, f, S, R, L, z⟩ => ?_⟩
  have l : lift G ta σ H (fun x H1 => ∃ μ1 S1 d, Ext μ H μ1 H1 ∧ RepS G.K G.C μ1 S1 H1 ∧ Is G.K μ1 H1 d x ∧ GoodI G σ μ1 H1 Q (valD d S1)) := by
    refine lift_bind R L (Good := GoodI G σ μ H Q) z (fun _ _ _ z => z) (fun z => z) fun d S1 v H1 μ1 e1 x1 R1 i1 h1 => ⟨μ1, S1, d, x1, R1, i1, ?_⟩
    cases q : valD d S1 with
    | ok src S' => rw [q] at h1; exact fun J H' μ' x => h1 J H' μ' (x1.trans x)
    | exc c fs S' => rw [q] at h1; exact fun H' μ' dd x => h1 H' μ' dd (x1.trans x)
    | bad => rw [q] at h1; exact h1
  refine thn (he.run pins s σ H _ I l) fun v s1 ⟨x, H1, I1, r1, μ1, S1, d, x1, R1, i1, g⟩ => ?_
  unfold valD at g
  have hK : ∀ {a : Addr} {xs : List V}, SqL G.K H1 a xs → SqL X.K H1 a xs := fun h => by rw [← k]; exact h
  have hT : ∀ {a : Addr} {xs : List V}, SqT G.K H1 a xs → SqT X.K H1 a xs := fun h => by rw [← k]; exact h
  -- a list that stands at a
  have lst : ∀ (a : Addr) (vs : List V), v = .ref a → SqL X.K H1 a vs → Q (Itl X.K a) H1 → wpAny (model X.prog X.w) X.A (pyIter v) (PIE X pins σ tg Q) X.xe s1 := by
    intro a vs ev hq q
    subst ev
    obtain ⟨its, rv, pl, hz⟩ := I1.list hq
    exact wpAny_pyIter_list pl.isList (pi_one (tk := s1.toks) I1 _ (turn_list a _) ⟨_, Heap.get?_push_size _ rfl, rfl, rfl⟩ q)
  have tup : ∀ (a : Addr) (vs : List V), v = .ref a → SqT X.K H1 a vs → Q (Itt X.K a) H1 → wpAny (model X.prog X.w) X.A (pyIter v) (PIE X pins σ tg Q) X.xe s1 := by
    intro a vs ev hq q
    subst ev
    obtain ⟨its, rv, pl, hz⟩ := I1.tuple hq
    exact wpAny_pyIter_tuple (show s1.heap.IsTuple a its.toArray from pl) (pi_one (tk := s1.toks) I1 _ (turn_tuple a _) ⟨_, Heap.get?_push_size _ rfl, rfl, rfl⟩ q)
  cases d with
  | tup ds =>
    obtain ⟨a, vs, rfl, hq, l⟩ := i1
    obtain ⟨_, _, _, hz⟩ := I1.tuple (hT hq)
    refine tup a vs r1 (hT hq) (g _ _ μ1 Ext.refl R1 ⟨by rw [← l.length]; exact hz, fun i μ S H x R c h => ?_, fun i μ S H d x R c h => ?_, fun i μ S H d y H' x R c h w => ?_⟩)
    · exact ⟨vs, by rw [← k]; exact SqT.monoG R1.toRep0 x hq, by rw [l.length]; exact h⟩
    · obtain ⟨v, e1, _⟩ := l.get h
      exact ⟨vs, v, by rw [← k]; exact SqT.monoG R1.toRep0 x hq, e1⟩
    · obtain ⟨v, e1, i1⟩ := l.get h
      have e2 := w.2 vs (by rw [← k]; exact SqT.monoG R1.toRep0 x hq)
      rw [e1] at e2
      cases e2
      exact ⟨w.1, i1.monoG R1.toRep0 x⟩
  | lst ds =>
    obtain ⟨a, vs, rfl, na, hq, l⟩ := i1
    have st : ∀ {μ : Mu} {H : Hp}, Grow μ1 H1 μ H → SqL X.K H a vs := fun x => .inl (.inl (x.kept a _ hq na))
    refine lst a vs r1 (.inl (.inl hq)) (g _ _ μ1 Ext.refl R1 ⟨by rw [← l.length]; exact R1.kz.hl a vs hq, fun i μ S H x R c h => ?_, fun i μ S H d x R c h => ?_, fun i μ S H d y H' x R c h w => ?_⟩)
    · exact ⟨vs, st x, by rw [l.length]; exact h⟩
    · obtain ⟨v, e1, _⟩ := l.get h
      exact ⟨vs, v, st x, e1⟩
    · obtain ⟨v, e1, i1⟩ := l.get h
      have e2 := w.2 vs (st x)
      rw [e1] at e2
      cases e2
      exact ⟨w.1, i1.monoG R1.toRep0 x⟩
  | scr ns =>
    obtain ⟨a, rfl, hq⟩ := i1
    obtain ⟨_, _, _, hz⟩ := I1.list (hK hq.seq)
    have st : ∀ {μ : Mu} {H : Hp}, Grow μ1 H1 μ H → SqL X.K H a (ns.map V.int) := fun x => by rw [← k]; exact (SqF.monoG R1.toRep0 x hq).seq
    refine lst a _ r1 (hK hq.seq) (g _ _ μ1 Ext.refl R1 ⟨by simpa using hz, fun i μ S H x R c h => ?_, fun i μ S H d x R c h => ?_, fun i μ S H d y H' x R c h w => ?_⟩)
    · exact ⟨_, st x, by simpa using h⟩
    · obtain ⟨n, e1, rfl⟩ := get_map_int h
      exact ⟨_, .int n, st x, by rw [List.getElem?_map, e1]; rfl⟩
    · obtain ⟨n, e1, rfl⟩ := get_map_int h
      have e2 := w.2 _ (st x)
      rw [List.getElem?_map, e1] at e2
      cases e2
      exact ⟨w.1, rfl⟩
  | str z =>
    cases i1
    dsimp only [srcOf] at g
    split at g
    · rename_i hz
      split at hz
      · rename_i hlen
        cases hz
        obtain ⟨t, rfl⟩ := r1
        have q : Q (Its ⟨z.toArray⟩) H1 := by
          refine g _ _ μ1 Ext.refl R1 ⟨by rw [List.length_map, szl]; exact hlen, fun i μ S H x R c h => ?_, fun i μ S H d x R c h => ?_, fun i μ S H d y H' x R c h w => ?_⟩
          · show z.toArray.size ≤ i
            simpa using h
          · show i < z.toArray.size
            have := (List.getElem?_eq_some_iff.mp h).1
            simpa using this
          · obtain ⟨e1, c, e2, rfl⟩ := w
            have e3 : z[i]? = some c := by simpa using e2
            rw [List.getElem?_map, e3] at h
            cases h
            exact ⟨e1, rfl⟩
        cases ha : (⟨z.toArray⟩ : Str).cps.all (· < 128)
        · exact wpAny_pyIter_wide ha (pi_one (tk := s1.toks) I1 _ (turn_str _ _ t "str_iterator" (.inr rfl)) ⟨_, Heap.get?_push_size _ rfl, rfl, rfl⟩ q)
        · exact wpAny_pyIter_ascii ha (pi_one (tk := s1.toks) I1 _ (turn_str _ _ t "str_ascii_iterator" (.inl rfl)) ⟨_, Heap.get?_push_size _ rfl, rfl, rfl⟩ q)
      · cases hz
    · exact g.elim
  | ref n =>
    dsimp only [srcOf] at g
    cases e0 : S1[n]? with
    | none => simp only [e0] at g; exact g.elim
    | some o =>
      simp only [e0] at g
      cases o with
      | ins _ _ => exact g.elim
      | exc _ _ => exact g.elim
      | dct _ _ => exact g.elim
      | lst ds =>
        obtain ⟨a, rfl, hm, vs, hq, l⟩ := R1.at i1 e0
        have st : ∀ {μ : Mu} {S : Sto} {H : Hp}, Grow μ1 H1 μ H → Rep0 G.K G.C μ S H → Chk [(n, .lst ds)] S → ∃ us, H a = some (.lst us) ∧ IsL G.K μ H ds us := fun {μ S H} x R c => by
          have c1 := c (n, .lst ds) (List.mem_singleton.mpr rfl)
          have hm' : μ.l[n]? = some a := by
            obtain ⟨t, ht⟩ := x.pre
            rw [← ht, List.getElem?_append_left ((List.getElem?_eq_some_iff.mp hm).1)]
            exact hm
          exact R.ob n a _ hm' c1
        refine lst a vs r1 (.inl (.inl hq)) (g _ _ μ1 Ext.refl R1 ⟨by rw [← l.length]; exact R1.kz.hl a vs hq, fun i μ S H x R c h => ?_, fun i μ S H d x R c h => ?_, fun i μ S H d y H' x R c h w => ?_⟩)
        · obtain ⟨us, hu, lu⟩ := st x R c
          exact ⟨us, .inl (.inl hu), by rw [lu.length]; exact h⟩
        · obtain ⟨us, hu, lu⟩ := st x R c
          obtain ⟨v, e1, _⟩ := lu.get h
          exact ⟨us, v, .inl (.inl hu), e1⟩
        · obtain ⟨us, hu, lu⟩ := st x R c
          obtain ⟨v, e1, i1⟩ := lu.get h
          have e2 := w.2 us (.inl (.inl hu))
          rw [e1] at e2
          cases e2
          exact ⟨w.1, i1⟩
  | _ => exact g.elim
theorem range_walk {K : PySem.W.Frag} {C : Nat → Addr} {μ : Mu} {H : Hp} {lo hi : Int} {s : Src} (h : rangeD lo hi = some s) : (-(2 ^ 62) ≤ lo ∧ lo < 2 ^ 62 ∧ -(2 ^ 62) ≤ hi ∧ hi < 2 ^ 62) ∧ Walk K C μ H (Itr lo (hi - lo).toNat) s := by
  unfold rangeD at h
  split at h
  · rename_i hc
    cases h
    have e : (upFrom lo (hi - lo).toNat).length = (hi - lo).toNat := by simp [upFrom]
    refine ⟨by omega, ⟨by rw [e, szl]; show _ ≤ 16777216; omega, fun i μ S H x R c h => ?_, fun i μ S H d x R c h => ?_, fun i μ S H d y H' x R c h w => ?_⟩⟩
    · show (hi - lo).toNat ≤ i
      rw [← e]; exact h
    · show i < (hi - lo).toNat
      rw [← e]; exact (List.getElem?_eq_some_iff.mp h).1
    · obtain ⟨e1, rfl⟩ := w
      refine ⟨e1, ?_⟩
      have hi' : i < (hi - lo).toNat := by rw [← e]; exact (List.getElem?_eq_some_iff.mp h).1
      have e2 : (upFrom lo (hi - lo).toNat)[i]? = some (.int (lo + (i : Int))) := by
        unfold upFrom
        rw [List.getElem?_map, List.getElem?_range hi']
        rfl
      have h' : (upFrom lo (hi - lo).toNat)[i]? = some d := h
      rw [e2] at h'
      cases h'
      rfl
  · cases h
theorem fi_range1 (hg : Gl X "range") (hm : X.mg "range" = none) (ha : PE X a (lift G ta)) (hs : notStar a = true) : PI X tg (.Call (.Name "range" p) [a] [] pos) (liftI G fun f S => (ta f S).bind fun x S => rng1D x S) := by
  refine PI.imp (pi_range1 hg hm (pa_cons ha pa_nil (star_cons hs)) (star_cons hs)) fun σ H Q ⟨μ, f, S, R, L, z⟩ => ?_
  refine lift_bind R L (Good := GoodI G σ μ H Q) z (fun _ _ _ z => z) (fun z => z) fun d S1 v H1 μ1 e1 x1 R1 i1 h1 => ?_
  cases d with
  | int i =>
    cases i1
    dsimp only [rng1D] at h1
    cases q : rangeD 0 i with
    | none => rw [q] at h1; exact h1.elim
    | some s =>
      rw [q] at h1
      obtain ⟨hb, w⟩ := range_walk (K := G.K) (C := G.C) (μ := μ1) (H := H1) q
      refine ⟨i, rfl, hb.2.2.1, hb.2.2.2, h1 _ H1 μ1 x1 R1 ?_⟩
      rw [Int.sub_zero] at w
      exact w
  | _ => exact h1.elim
theorem fi_range2 (hg : Gl X "range") (hm : X.mg "range" = none) (ha : PE X a (lift G ta)) (hb : PE X b (lift G tb)) (hs : notStar a = true) (hs2 : notStar b = true) : PI X tg (.Call (.Name "range" p) [a, b] [] pos) (liftI G fun f S => (ta f S).bind fun x S => (tb f S).bind fun y S => rng2D x y S) := by
  refine PI.imp (pi_range2 hg hm (pa_cons ha (pa_cons hb pa_nil (star_cons hs2)) (star_cons hs)) (by rw [star_cons hs, star_cons hs2]; rfl) (star_cons hs2)) fun σ H Q ⟨μ, f, S, R, L, z⟩ => ?_
  refine lift_bind R L (Good := GoodI G σ μ H Q) z (fun _ _ _ z => z) (fun z => z) fun d S1 v H1 μ1 e1 x1 R1 i1 h1 => ?_
  have h1' : GoodI G σ μ1 H1 Q ((tb f S1).bind fun y S => rng2D d y S) := by
    cases q : (tb f S1).bind fun y S => rng2D d y S with
    | ok src S' => rw [q] at h1; exact fun J H' μ' x => h1 J H' μ' (x1.trans x)
    | exc c fs S' => rw [q] at h1; exact fun H' μ' dd x => h1 H' μ' dd (x1.trans x)
    | bad => rw [q] at h1; exact h1
  refine lift_bind R1 (L.mono R.toRep0 x1) (Good := GoodI G σ μ1 H1 Q) h1' (fun _ _ _ z => z) (fun z => z) fun d2 S2 v2 H2 μ2 e2 x2 R2 i2 h2 => ?_
  cases d with
  | int i =>
    cases d2 with
    | int j =>
      cases i1; cases i2
      dsimp only [rng2D] at h2
      cases q : rangeD i j with
      | none => rw [q] at h2; exact h2.elim
      | some s =>
        rw [q] at h2
        obtain ⟨hb, w⟩ := range_walk (K := G.K) (C := G.C) (μ := μ2) (H := H2) q
        exact ⟨i, j, rfl, hb, h2 _ H2 μ2 x2 R2 w⟩
    | _ => exact h2.elim
  | _ => exact h2.elim

end
end SL
set_option Elab.async false
set_option linter.all false
set_option maxRecDepth 100000
set_option maxHeartbeats 1000000
/-! A8: targets, comprehensions. -/
namespace SL
open PySem PySem.Spec L2

/-! ### targets -/
def Off (sl : List Nat) (σ σ' : St) : Prop := σ'.length = σ.length ∧ ∀ j, j ∉ sl → σ'[j]? = σ[j]?
theorem Off.refl {sl : List Nat} {σ : St} : Off sl σ σ := ⟨rfl, fun _ _ => rfl⟩
theorem Off.set {sl : List Nat} {σ σ' : St} {i : Nat} {x : Option V} (h : Off sl σ σ') (hi : i ∈ sl) : Off sl σ (σ'.set i x) :=
  ⟨by rw [List.length_set]; exact h.1, fun j hj => by rw [List.getElem?_set_ne (show i ≠ j from fun e => hj (by rw [← e]; exact hi))]; exact h.2 j hj⟩
theorem wipe_get (σ : St) (j : Nat) : ∀ vs : List Nat, (L2.wipe σ vs)[j]? = if j ∈ vs then (if j < σ.length then some none else none) else σ[j]?
  | [] => by simp [L2.wipe]
  | v :: vs => by
    unfold L2.wipe
    by_cases h : j = v
    · subst h
      rw [if_pos List.mem_cons_self]
      by_cases hl : j < (L2.wipe σ vs).length
      · rw [List.getElem?_set_self hl, if_pos (by rw [← wipe_length σ vs]; exact hl)]
      · rw [List.getElem?_eq_none (by simpa using hl), if_neg (by rw [← wipe_length σ vs]; exact hl)]
    · rw [List.getElem?_set_ne (Ne.symm h), wipe_get σ j vs]
      by_cases hj : j ∈ vs
      · rw [if_pos hj, if_pos (List.mem_cons_of_mem _ hj)]
      · rw [if_neg hj, if_neg (by simp [h, hj])]
theorem wipe_off {σ σ2 : St} {sl vs : List Nat} (h : Off sl (L2.wipe σ vs) σ2) (hs : ∀ i ∈ sl, i ∈ vs) : L2.wipe σ2 vs = L2.wipe σ vs := by
  apply List.ext_getElem?
  intro j
  rw [wipe_get, wipe_get]
  have e : σ2.length = σ.length := by rw [h.1, wipe_length]
  by_cases hj : j ∈ vs
  · rw [if_pos hj, if_pos hj, e]
  · rw [if_neg hj, if_neg hj, h.2 j (fun z => hj (hs j z)), wipe_get, if_neg hj]

def tgSlots : Tg → List Nat
  | .name i => [i]
  | .tup is => is
/-- several names, one after another -/
def gNames (is : List Nat) : TGs := match is with
  | [] => gNil
  | i :: is => gCons (gName i) (gNames is)
theorem gNames_ok {Q : St → Hp → Prop} {K : PySem.W.Frag} {μ : Mu} {H : Hp} (sl : List Nat) : ∀ (is : List Nat) (ds : List D) (vs : List V) (f f' : FS) (σ σ₀ : St), (∀ i ∈ is, i ∈ sl) → IsL K μ H ds vs → setAll f is ds = some f' → Sl K μ H f σ → Off sl σ₀ σ → (∀ σ', Sl K μ H f' σ' → Off sl σ₀ σ' → Q σ' H) → gNames is vs σ H Q
  | [], ds, vs, f, f', σ, σ₀, hs, l, e, L, o, q => by
    cases ds with
    | nil =>
      cases (show vs = [] from l)
      cases e
      exact ⟨rfl, q σ L o⟩
    | cons _ _ => cases e
  | i :: is, ds, vs, f, f', σ, σ₀, hs, l, e, L, o, q => by
    cases ds with
    | nil => cases e
    | cons d ds =>
      obtain ⟨v, r, rfl, i1, i2⟩ := l
      exact ⟨v, r, rfl, gNames_ok sl is ds r (setAt f i d) f' _ σ₀ (fun j hj => hs j (List.mem_cons_of_mem _ hj)) i2 e (L.set i1) (o.set (hs i List.mem_cons_self)) q⟩
def gTg (K : PySem.W.Frag) : Tg → TG
  | .name i => gName i
  | .tup is => fun v σ H Q => gTup K is.length (gNames is) v σ H Q ∨ gLst K is.length (gNames is) v σ H Q
theorem setAll_len : ∀ {is : List Nat} {ds : List D} {f f' : FS}, setAll f is ds = some f' → ds.length = is.length
  | [], [], _, _, _ => rfl
  | [], _ :: _, _, _, e => by cases e
  | _ :: _, [], _, _, e => by cases e
  | i :: is, d :: ds, f, f', e => by
    have e' : setAll (setAt f i d) is ds = some f' := e
    rw [List.length_cons, List.length_cons, setAll_len e']
theorem gTg_ok {K : PySem.W.Frag} {C : Nat → Addr} {μ : Mu} {H : Hp} {S : Sto} {tg : Tg} {d : D} {v : V} {f f' : FS} {σ : St} {Q : St → Hp → Prop} (R : Rep0 K C μ S H) (L : Sl K μ H f σ) (i : Is K μ H d v) (e : bindTg S tg d f = some f') (q : ∀ σ', Sl K μ H f' σ' → Off (tgSlots tg) σ σ' → Q σ' H) : gTg K tg v σ H Q := by
  cases tg with
  | name j =>
    cases e
    exact q _ (L.set i) (Off.refl.set (List.mem_singleton.mpr rfl))
  | tup is =>
    dsimp only [bindTg] at e
    cases e1 : seqOf S d with
    | none => rw [e1] at e; cases e
    | some ds =>
      rw [e1] at e
      obtain ⟨a, vs, rfl, hq, l⟩ := R.seq i e1
      have hl : vs.length = is.length := by rw [l.length]; exact setAll_len e
      have g := gNames_ok (Q := Q) is is ds vs f f' σ σ (fun _ h => h) l e L Off.refl q
      rcases hq with hq | hq
      · exact .inr ⟨a, vs, rfl, hq, hl, g⟩
      · exact .inl ⟨a, vs, rfl, hq, hl, g⟩
section
variable {X : Cx} {G : Gx} {pos : Pos}
/-- the names that a target stores -/
def tgNames : List Expr → Option (List Str)
  | [] => some []
  | .Name x _ :: r => match tgNames r with
    | some xs => some (x :: xs)
    | none => none
  | _ => none
theorem names_each {env : Env} : ∀ {es : List Expr} {xs : List Str}, tgNames es = some xs → (assignEach es env).length = es.length ∧ (assignEach es env).findIdx? (·.1) = none
  | [], xs, h => ⟨rfl, rfl⟩
  | .Name x p :: r, xs, h => by
    unfold tgNames at h
    cases e : tgNames r with
    | none => rw [e] at h; cases h
    | some ys =>
      obtain ⟨h1, h2⟩ := names_each (env := env) e
      refine ⟨?_, ?_⟩
      · show (assignEach r env).length + 1 = r.length + 1
        rw [h1]
      · show List.findIdx? (·.1) ((false, assign (.Name x p) env) :: assignEach r env) = none
        rw [List.findIdx?_cons]
        simp [h2]
/-- the name x may be stored, as slot i -/
def TgOk (X : Cx) (i : Nat) (x : Str) : Prop := X.N[i]? = some x ∧ Loc X.env.scope x ∧ (X.fn x = true ∨ X.env.scope.names.lookup x = some .local)
def TgsOk (X : Cx) : List Nat → List Str → Prop
  | [], [] => True
  | i :: is, x :: xs => TgOk X i x ∧ TgsOk X is xs
  | _, _ => False
theorem pg_names (hN : X.N.Nodup) : ∀ {es : List Expr} {xs : List Str} {is : List Nat}, tgNames es = some xs → TgsOk X is xs → PGs X es (gNames is) ∧ es.length = is.length
  | [], xs, is, h, hi => by
    cases h
    cases is with
    | nil => exact ⟨pgs_nil, rfl⟩
    | cons _ _ => exact hi.elim
  | .Name x p :: r, xs, is, h, hi => by
    unfold tgNames at h
    cases e : tgNames r with
    | none => rw [e] at h; cases h
    | some ys =>
      rw [e] at h
      cases h
      cases is with
      | nil => exact hi.elim
      | cons i is =>
        obtain ⟨⟨e2, e3, e4⟩, h2⟩ := hi
        obtain ⟨g1, g2⟩ := pg_names hN e h2
        exact ⟨pgs_cons (pg_name hN e2 e3 e4) g1, by simp [g2]⟩
def TgIs (X : Cx) : Tg → Expr → Prop
  | .name i, .Name x _ => TgOk X i x
  | .tup is, .Tuple es _ _ => ∃ xs, tgNames es = some xs ∧ TgsOk X is xs
  | _, _ => False
/-- a target of a text -/
theorem pg_tg {tg : Tg} {e : Expr} (k : G.K = X.K) (hc : X.calm = true) (hN : X.N.Nodup) (h : TgIs X tg e) : PG X e (gTg G.K tg) := by
  cases tg with
  | name i =>
    cases e with
    | Name x p =>
      obtain ⟨h1, h2, h3⟩ := h
      exact pg_name hN h1 h2 h3
    | _ => exact h.elim
  | tup is =>
    cases e with
    | Tuple es kk p =>
      obtain ⟨xs, h1, h2⟩ := h
      obtain ⟨g, h4⟩ := pg_names hN h1 h2
      obtain ⟨n1, n2⟩ := names_each (env := X.env) h1
      have t1 : PG X (.Tuple es kk p) (gTup X.K is.length (gNames is)) := pg_tup hc g (n1.trans h4) n2
      have t2 : PG X (.Tuple es kk p) (gLst X.K is.length (gNames is)) := pg_lst hc g (n1.trans h4) n2
      refine ⟨fun pins s σ H v u Q I r q => ?_⟩
      rw [k] at q
      rcases q with q | q
      · exact t1.run pins s σ H v u Q I r q
      · exact t2.run pins s σ H v u Q I r q
    | _ => exact h.elim
theorem PG.kno {e : Expr} {g : TG} (h : PG X e g) : PG X e (fun v σ H Q => KZ X.K H → g v σ H Q) :=
  ⟨fun pins s σ H v u Q I r q => h.run pins s σ H v u Q I r (q (kz_of I))⟩

/-! ### comprehensions -/
def Gx.calm (G : Gx) : Gx := ⟨G.K, G.C, fun _ _ _ _ => False⟩
/-- a comprehension's test -/
def GoodC (Q : Bool → Hp → Prop) (K : PySem.W.Frag) (C : Nat → Addr) (μ : Mu) (H : Hp) : Out (Option D) → Prop
  | .ok none S' => ∀ H' μ', Ext μ H μ' H' → RepS K C μ' S' H' → Q true H'
  | .ok (some (.bl b)) S' => ∀ H' μ', Ext μ H μ' H' → RepS K C μ' S' H' → Q b H'
  | _ => False
def CondOk (G : Gx) (tt : TT) (tc : FS → Sto → Out (Option D)) : Prop := ∀ (σ : St) (H : Hp) (Q : Bool → Hp → Prop) μ S f, RepS G.K G.C μ S H → Sl G.K μ H f σ → GoodC Q G.K G.C μ H (tc f S) → tt σ H Q
theorem cond_none : CondOk G tYes (fun _ S => .ok none S) := fun σ H Q μ S f R L g => g H μ Ext.refl R
theorem cond_some {t : FS → Sto → Out D} : CondOk G (liftT G.calm t) (fun f S => (t f S).bind fun d S => .ok (some d) S) := fun σ H Q μ S f R L g => by
  refine ⟨μ, f, S, R, L, ?_⟩
  dsimp only at g
  cases e : t f S with
  | ok d S' =>
    rw [e] at g
    cases d with
    | bl b => exact g
    | _ => exact g.elim
  | exc c fs S' => rw [e] at g; exact g.elim
  | bad => rw [e] at g; exact g.elim
/-- a turn of a comprehension -/
theorem compL_chk {c : List (Nat × Ob)} {st : D → Sto → Out (Option D)} {xs : List D} {S S' : Sto} {r : List D} (h : compL c st xs S = .ok r S') : Chk c S := by
  cases xs with
  | nil =>
    unfold compL at h
    split at h
    · assumption
    · cases h
  | cons x xs =>
    unfold compL at h
    split at h
    · assumption
    · cases h
theorem liftI_bind {t : FS → Sto → Out Src} {σ : St} {H : Hp} {μ : Mu} {Q : L2.It → Hp → Prop} {S : Sto} {f : FS} (R : RepS G.K G.C μ S H) (L : Sl G.K μ H f σ) {β : Type} {k : Src → Sto → Out β} {Good : Out β → Prop}
    (h : Good ((t f S).bind k)) (hx : ∀ c fs S', Good (.exc c fs S') → ∀ H' μ' dd, Ext μ H μ' H' → RepS G.K G.C μ' S' H' → XIs G.K μ' H' fs dd → G.W (.ref (G.C c)) dd σ H') (hb : ¬ Good .bad)
    (go : ∀ src S' J H' μ', Ext μ H μ' H' → RepS G.K G.C μ' S' H' → Walk G.K G.C μ' H' J src → Good (k src S') → Q J H') : liftI G t σ H Q := by
  refine ⟨μ, f, S, R, L, ?_⟩
  cases e : t f S with
  | ok d S' =>
    rw [e] at h
    exact fun J H' μ' x R' w => go d S' J H' μ' x R' w h
  | exc c fs S' =>
    rw [e] at h
    exact hx c fs S' h
  | bad =>
    rw [e] at h
    exact hb h
theorem drop_get {α : Type} {xs : List α} {i : Nat} {x : α} {r : List α} (h : xs.drop i = x :: r) : xs[i]? = some x ∧ xs.drop (i + 1) = r := by
  constructor
  · have := List.getElem?_drop (xs := xs) (i := i) (j := 0)
    rw [h] at this
    simpa using this.symm
  · have e : (xs.drop i).drop 1 = xs.drop (i + 1) := by rw [List.drop_drop]
    rw [← e, h]
    rfl
/-- a comprehension under way: the list at p is being made -/
structure Mid (K : PySem.W.Frag) (C : Nat → Addr) (μ₁ : Mu) (H₁ : Hp) (p : Addr) (μ : Mu) (S : Sto) (H : Hp) (acc : List V) : Prop where
  pre : μ₁.l <+: μ.l
  keep : ∀ b o, H₁ b = some o → b ∉ μ₁.l → H b = some o
  new : ∀ b ∈ μ.l, b ∉ μ₁.l → H₁ b = none
  held : μ.r = p :: μ₁.r
  rep : Rep0 K C μ S H
  at_ : H p = some (.lst acc)
section
variable {K : PySem.W.Frag} {C : Nat → Addr} {μ₁ μ μ' : Mu} {H₁ H H' : Hp} {p : Addr} {S S' : Sto} {acc : List V}
theorem Mid.grow (m : Mid K C μ₁ H₁ p μ S H acc) (n : H₁ p = none) : Grow μ₁ H₁ μ H :=
  ⟨m.pre, fun a o h k => m.keep a o h fun z => k (.inl z), fun a o h k z => by
    rcases z with z | z
    · have := m.new a z fun q => k (.inl q)
      rw [h] at this; cases this
    · rw [m.held] at z
      rcases List.mem_cons.mp z with z | z
      · rw [z, n] at h; cases h
      · exact k (.inr z)⟩
theorem Mid.start (R : Rep0 K C μ₁ S H₁) (n : H₁ p = none) : Mid K C μ₁ H₁ p (μ₁.hold p) S (upd H₁ p (.lst [])) [] := by
  have g : Grow μ₁ H₁ (μ₁.hold p) (upd H₁ p (.lst [])) := ⟨List.prefix_refl _, fun a o h _ => by rw [upd_ne (ne_of_none h n)]; exact h, fun a o h k z => by
    rcases z with z | z
    · exact k (.inl z)
    · rcases List.mem_cons.mp z with z | z
      · rw [z, n] at h; cases h
      · exact k (.inr z)⟩
  refine ⟨List.prefix_refl _, fun b o h _ => by rw [upd_ne (ne_of_none h n)]; exact h, fun b m k => absurd m k, rfl, ⟨R.nd, R.len, fun k a ob e1 e2 => (R.ob k a ob e1 e2).monoG R g ?_, fun a ha => ?_⟩, upd_same⟩
  · obtain ⟨u, e, _⟩ := (R.ob k a ob e1 e2).kinds
    rw [upd_ne (ne_of_none e n)]
  · rcases List.mem_cons.mp ha with z | z
    · subst z
      exact ⟨fun m => R.notin n (.inl m), [], upd_same⟩
    · obtain ⟨n1, xs, e⟩ := R.held a z
      exact ⟨n1, xs, by rw [upd_ne (ne_of_none e n)]; exact e⟩
theorem Mid.ext (m : Mid K C μ₁ H₁ p μ S H acc) (x : Ext μ H μ' H') (R' : Rep0 K C μ' S' H') : Mid K C μ₁ H₁ p μ' S' H' acc := by
  have np : p ∉ μ.l := (m.rep.held p (by rw [m.held]; exact List.mem_cons_self)).1
  refine ⟨m.pre.trans x.pre, fun b o h n => ?_, fun b hb n => ?_, x.held.trans m.held, R', x.keep p _ m.at_ np⟩
  · refine x.keep b o (m.keep b o h n) fun z => ?_
    have := m.new b z n
    rw [h] at this; cases this
  · by_cases hm : b ∈ μ.l
    · exact m.new b hm n
    · cases q : H₁ b with
      | none => rfl
      | some o =>
        have z := x.new b hb hm
        rw [m.keep b o q n] at z; cases z
theorem Mid.add (m : Mid K C μ₁ H₁ p μ S H acc) (n : H₁ p = none) (v : V) : Mid K C μ₁ H₁ p μ S (upd H p (.lst (acc ++ [v]))) (acc ++ [v]) ∧ Grow μ H μ (upd H p (.lst (acc ++ [v]))) := by
  have hp : p ∈ μ.r := by rw [m.held]; exact List.mem_cons_self
  have np : p ∉ μ.l := (m.rep.held p hp).1
  have g : Grow μ H μ (upd H p (.lst (acc ++ [v]))) := ⟨List.prefix_refl _, fun a o h k => by rw [upd_ne (show a ≠ p from fun e => k (.inr (by rw [e]; exact hp)))]; exact h, fun a o h k => k⟩
  refine ⟨⟨m.pre, fun b o h k => ?_, m.new, m.held, ⟨m.rep.nd, m.rep.len, fun k a ob e1 e2 => (m.rep.ob k a ob e1 e2).monoG m.rep g ?_, fun a ha => ?_⟩, upd_same⟩, g⟩
  · rw [upd_ne (show b ≠ p from fun e => by rw [e, n] at h; cases h)]
    exact m.keep b o h k
  · rw [upd_ne (show a ≠ p from fun e => np (by rw [← e]; exact List.mem_of_getElem? e1))]
  · obtain ⟨n1, xs, e⟩ := m.rep.held a ha
    by_cases z : a = p
    · subst z
      exact ⟨n1, _, upd_same⟩
    · exact ⟨n1, xs, by rw [upd_ne z]; exact e⟩
theorem Mid.done {S₁ : Sto} (R : Rep0 K C μ₁ S₁ H₁) (m : Mid K C μ₁ H₁ p μ S H acc) (n : H₁ p = none) : Ext μ₁ H₁ ⟨μ.l, μ₁.r⟩ H ∧ Rep0 K C ⟨μ.l, μ₁.r⟩ S H ∧ p ∉ (⟨μ.l, μ₁.r⟩ : Mu) ∧ Grow μ H ⟨μ.l, μ₁.r⟩ H := by
  have sub : ∀ a, a ∈ μ₁.r → a ∈ μ.r := fun a h => by rw [m.held]; exact List.mem_cons_of_mem _ h
  have g : Grow μ H ⟨μ.l, μ₁.r⟩ H := ⟨List.prefix_refl _, fun _ _ h _ => h, fun a o h k z => by
    rcases z with z | z
    · exact k (.inl z)
    · exact k (.inr (sub a z))⟩
  refine ⟨⟨m.pre, rfl, m.keep, m.new⟩, ⟨m.rep.nd, m.rep.len, fun k a ob e1 e2 => (m.rep.ob k a ob e1 e2).monoG m.rep g rfl, fun a ha => m.rep.held a (sub a ha)⟩, fun z => ?_, g⟩
  rcases z with z | z
  · exact (m.rep.held p (by rw [m.held]; exact List.mem_cons_self)).1 z
  · exact R.notin n (.inr z)
end
/-- the reading of a comprehension -/
theorem comp_read {tI : FS → Sto → Out Src} {tg : Tg} {tt : TT} {tc : FS → Sto → Out (Option D)} {te : FS → Sto → Out D} {vs : List Nat} (hcond : CondOk G tt tc) (hsl : ∀ i ∈ tgSlots tg, i ∈ vs) (σ : St) (H : Hp) (Q : VK)
    (z : lift G (fun f S => (tI f S).bind fun src S => compD tg tc te vs f src S) σ H Q) : tLc (liftI G tI) (fun v σ H Q => KZ G.K H → gTg G.K tg v σ H Q) tt (lift G.calm te) vs σ H (SL.kno G.K Q) := by
  obtain ⟨μ, f, S, R, L, z⟩ := z
  refine liftI_bind R L (Good := GoodE G σ μ H Q) z (fun _ _ _ z => z) (fun z => z) fun src S1 J H1 μ1 x1 R1 w h1 => ?_
  unfold compD at h1
  cases q : compL src.chk (stepD tg tc te (wipe f vs)) src.xs S1 with
  | exc c fs S' => rw [q] at h1; exact h1.elim
  | bad => rw [q] at h1; exact h1.elim
  | ok rs S2 =>
    rw [q] at h1
    intro p np
    have L1 : Sl G.K μ1 H1 f σ := L.mono R.toRep0 x1
    refine ⟨fun i m H => m = src.xs.length - i ∧ i ≤ src.xs.length ∧ ∃ μ S acc ds r, Mid G.K G.C μ1 H1 p μ S H acc ∧ IsL G.K μ H ds acc ∧ ds.length ≤ i ∧ compL src.chk (stepD tg tc te (wipe f vs)) (src.xs.drop i) S = .ok r S2 ∧ rs = ds ++ r,
      ⟨src.xs.length, by simp, Nat.zero_le _, μ1.hold p, S1, [], [], rs, Mid.start R1.toRep0 np, rfl, Nat.zero_le _, q, rfl⟩, fun i m H2 hw => ?_⟩
    obtain ⟨em, hle, μ2, S3, acc, ds, r, md, ld, hdi, hcl, hrs⟩ := hw
    have ck := compL_chk hcl
    have gr := md.grow np
    cases hdr : src.xs.drop i with
    | nil =>
      have hi : src.xs.length ≤ i := by
        have := congrArg List.length hdr
        rw [List.length_drop] at this
        simp at this
        omega
      refine .inl ⟨w.stop i μ2 S3 H2 gr md.rep ck hi, fun kz => ?_⟩
      rw [hdr] at hcl
      unfold compL at hcl
      rw [if_pos ck] at hcl
      cases hcl
      rw [List.append_nil] at hrs
      subst hrs
      obtain ⟨x2, R2, n2, g2⟩ := Mid.done R1.toRep0 md np
      exact h1 _ H2 _ (x1.trans x2) ⟨R2, kz⟩ ⟨p, acc, rfl, n2, md.at_, ld.monoG md.rep g2⟩
    | cons d rest =>
      obtain ⟨hget, hdr2⟩ := drop_get hdr
      have hi : i < src.xs.length := (List.getElem?_eq_some_iff.mp hget).1
      rw [hdr] at hcl
      unfold compL at hcl
      rw [if_pos ck] at hcl
      refine .inr ⟨w.go i μ2 S3 H2 d gr md.rep ck hget, fun H' => ∃ μ S acc ds r, Mid G.K G.C μ1 H1 p μ S H' acc ∧ IsL G.K μ H' ds acc ∧ ds.length ≤ i + 1 ∧ compL src.chk (stepD tg tc te (wipe f vs)) (src.xs.drop (i + 1)) S = .ok r S2 ∧ rs = ds ++ r, fun H' hN => ⟨m - 1, by omega, by omega, by omega, hN⟩, fun x H' hy => ?_⟩
      obtain ⟨rfl, ix⟩ := w.yld i μ2 S3 H2 d x H' gr md.rep ck hget hy
      intro kz
      have RS : RepS G.K G.C μ2 S3 H' := ⟨md.rep, kz⟩
      have L2' : Sl G.K μ2 H' (wipe f vs) (L2.wipe σ vs) := Sl.wipe (Sl.monoG R1.toRep0 gr L1) vs
      cases hb : bindTg S3 tg d (wipe f vs) with
      | none =>
        simp only [stepD, hb] at hcl
        cases hcl
      | some f' =>
        refine gTg_ok md.rep L2' ix hb fun σ' Ls off => ⟨wipe_off off hsl, ?_⟩
        simp only [stepD, hb] at hcl
        refine hcond σ' H' _ μ2 S3 f' RS Ls ?_
        -- behind the test: the element
        have elem : ∀ S4 H4 μ4, Ext μ2 H' μ4 H4 → RepS G.K G.C μ4 S4 H4 → (match (te f' S4).bind fun r S => (.ok (some r) S : Out (Option D)) with
            | .ok o S1 => match compL src.chk (stepD tg tc te (wipe f vs)) rest S1 with
              | .ok r S2 => (.ok (o.toList ++ r) S2 : Out (List D))
              | _ => .bad
            | _ => .bad) = .ok r S2 → lift G.calm te σ' H4 fun y H5 => ∃ acc, H5 p = some (.lst acc) ∧ acc.length < sizeLine ∧ ∃ μ S ac ds r, Mid G.K G.C μ1 H1 p μ S (upd H5 p (.lst (acc ++ [y]))) ac ∧ IsL G.K μ (upd H5 p (.lst (acc ++ [y]))) ds ac ∧ ds.length ≤ i + 1 ∧ compL src.chk (stepD tg tc te (wipe f vs)) (src.xs.drop (i + 1)) S = .ok r S2 ∧ rs = ds ++ r := by
          intro S4 H4 μ4 x4 R4 hcl
          refine ⟨μ4, f', S4, R4, Ls.mono RS.toRep0 x4, ?_⟩
          cases ht : te f' S4 with
          | exc c fs S' => rw [ht] at hcl; cases hcl
          | bad => rw [ht] at hcl; cases hcl
          | ok y S5 =>
            rw [ht] at hcl
            simp only [Out.ok_bind] at hcl
            cases hc2 : compL src.chk (stepD tg tc te (wipe f vs)) rest S5 with
            | exc c fs S' => rw [hc2] at hcl; cases hcl
            | bad => rw [hc2] at hcl; cases hcl
            | ok r2 S6 =>
              rw [hc2] at hcl
              cases hcl
              intro v H5 μ5 x5 R5 iv
              have m5 := (md.ext x4 R4.toRep0).ext x5 R5.toRep0
              obtain ⟨m6, g6⟩ := m5.add np v
              have l5 : IsL G.K μ5 H5 ds acc := (ld.mono RS.toRep0 x4).mono R4.toRep0 x5
              have la : acc.length = ds.length := ld.length
              have hlen := w.len
              refine ⟨acc, m5.at_, by omega, μ5, S5, _, ds ++ [y], r2, m6, ?_, by simp; omega, by rw [hdr2]; exact hc2, by rw [hrs]; simp⟩
              exact (l5.append (show IsL G.K μ5 H5 [y] [v] from ⟨v, [], rfl, iv, rfl⟩)).monoG R5.toRep0 g6
        cases htc : tc f' S3 with
        | exc c fs S' => rw [htc] at hcl; cases hcl
        | bad => rw [htc] at hcl; cases hcl
        | ok o S4 =>
          rw [htc] at hcl
          simp only [Out.ok_bind] at hcl
          cases o with
          | none =>
            intro H4 μ4 x4 R4
            rw [if_pos rfl]
            exact elem S4 H4 μ4 x4 R4 hcl
          | some b =>
            cases b with
            | bl b =>
              intro H4 μ4 x4 R4
              cases b with
              | true =>
                rw [if_pos rfl]
                exact elem S4 H4 μ4 x4 R4 hcl
              | false =>
                rw [if_neg (by decide)]
                dsimp only at hcl
                cases hc2 : compL src.chk (stepD tg tc te (wipe f vs)) rest S4 with
                | exc c fs S' => rw [hc2] at hcl; cases hcl
                | bad => rw [hc2] at hcl; cases hcl
                | ok r2 S6 =>
                  rw [hc2] at hcl
                  cases hcl
                  exact ⟨μ4, S4, acc, ds, r2, md.ext x4 R4.toRep0, ld.mono RS.toRep0 x4, by omega, by rw [hdr2]; exact hc2, by rw [hrs]; simp⟩
            | _ => cases hcl
end
end SL
set_option Elab.async false
set_option linter.all false
set_option maxRecDepth 100000
set_option maxHeartbeats 1000000
/-! A9: comprehensions as values; statements. -/
namespace SL
open PySem PySem.Spec L2
section
variable {X : Cx} {G : Gx} {pos spos : Pos}
theorem fe_comp {elt tg iter : Expr} {ifs : List Expr} {scope : Scope} {own : List (Str × Nat)} {tI : FS → Sto → Out Src} {itg : Tg} {tt : TT} {tc : FS → Sto → Out (Option D)} {te : FS → Sto → Out D} (k : G.K = X.K) (hc : X.calm = true) (hN : X.N.Nodup) (hi : PI X tg iter (liftI G tI)) (ok : BlkOk X.N X.env.scope scope own)
    (hg : ∀ (s : Shared) (H : Hp) (C : Addr) (cl : List (Str × Addr)) (fp : List Addr), PG (X.blk s H scope (compEnvC scope cl C X.env) fp) tg (gTg G.K itg)) (ht : ∀ (s : Shared) (H : Hp) (C : Addr) (cl : List (Str × Addr)) (fp : List Addr), PTs (X.blk s H scope (compEnvC scope cl C X.env) fp) ifs tt) (hcond : CondOk G tt tc)
    (he : ∀ (s : Shared) (H : Hp) (C : Addr) (cl : List (Str × Addr)) (fp : List Addr), PE (X.blk s H scope (compEnvC scope cl C X.env) fp) elt (lift G.calm te)) (hset : notSet iter = true) (hsl : ∀ i ∈ tgSlots itg, i ∈ own.map (·.2)) :
    PE X (.ListComp elt [⟨tg, iter, ifs, 0⟩] scope pos) (lift G fun f S => (tI f S).bind fun src S => compD itg tc te (own.map (·.2)) f src S) := by
  refine PE.imp (PE.kno (pe_lc (g := fun v σ H Q => KZ X.K H → gTg G.K itg v σ H Q) hc hN hi ok (fun s H C cl fp => PG.kno (hg s H C cl fp)) ht he (set_ok hset))) fun σ H Q z => ?_
  rw [← k]
  exact comp_read hcond hsl σ H Q z
theorem PS.kno {st : Stmt} {t : TS} (h : PS X st t) : PS X st (fun D σ H => t { D with nx := fun σ' H' => KZ X.K H' → D.nx σ' H' } σ H) :=
  ⟨fun pins s σ H D I q => thn (h.run pins s σ H _ I q) fun fl s' z => by
    cases fl with
    | next => obtain ⟨σ', H', I', q⟩ := z; exact ⟨σ', H', I', q (kz_of I')⟩
    | brk => exact z
    | cont => exact z
    | ret u => exact z⟩

/-! ### statements -/
def GoodS (G : Gx) (D : Ends) (μ : Mu) (H : Hp) : SO → Prop
  | .nx f S => ∀ σ' H' μ', Ext μ H μ' H' → RepS G.K G.C μ' S H' → Sl G.K μ' H' f σ' → D.nx σ' H'
  | .ret d S => ∀ v H' μ', Ext μ H μ' H' → RepS G.K G.C μ' S H' → Is G.K μ' H' d v → D.rt v H'
  | .brk f S => ∀ σ' H' μ', Ext μ H μ' H' → RepS G.K G.C μ' S H' → Sl G.K μ' H' f σ' → D.bk σ' H'
  | .ct f S => ∀ σ' H' μ', Ext μ H μ' H' → RepS G.K G.C μ' S H' → Sl G.K μ' H' f σ' → D.ct σ' H'
  | .exc c fs f S => ∀ σ' H' μ' dd, Ext μ H μ' H' → RepS G.K G.C μ' S H' → Sl G.K μ' H' f σ' → XIs G.K μ' H' fs dd → G.W (.ref (G.C c)) dd σ' H'
  | .bad => False
def liftS (G : Gx) (t : FS → Sto → SO) : TS := fun D σ H => ∃ μ f S, RepS G.K G.C μ S H ∧ Sl G.K μ H f σ ∧ GoodS G D μ H (t f S)
theorem GoodS.mono {D : Ends} {μ μ' : Mu} {H H' : Hp} {o : SO} (x : Ext μ H μ' H') (h : GoodS G D μ H o) : GoodS G D μ' H' o := by
  cases o with
  | nx f S => exact fun σ H2 μ2 x2 => h σ H2 μ2 (x.trans x2)
  | brk f S => exact fun σ H2 μ2 x2 => h σ H2 μ2 (x.trans x2)
  | ct f S => exact fun σ H2 μ2 x2 => h σ H2 μ2 (x.trans x2)
  | ret f S => exact fun σ H2 μ2 x2 => h σ H2 μ2 (x.trans x2)
  | exc c fs f S => exact fun σ H2 μ2 dd x2 => h σ H2 μ2 dd (x.trans x2)
  | bad => exact h
/-- an expression ahead of the rest of a statement -/
theorem s_bind {t : FS → Sto → Out D} {Q : VK} {σ : St} {μ : Mu} {H : Hp} {S : Sto} {f : FS} {D' : Ends} {k : D → Sto → SO} (R : RepS G.K G.C μ S H) (L : Sl G.K μ H f σ) (h : GoodS G D' μ H ((t f S).so f k))
    (go : ∀ d S' v H' μ', t f S = .ok d S' → Ext μ H μ' H' → RepS G.K G.C μ' S' H' → Is G.K μ' H' d v → Sl G.K μ' H' f σ → GoodS G D' μ' H' (k d S') → Q v H') : lift G t σ H Q := by
  refine ⟨μ, f, S, R, L, ?_⟩
  cases e : t f S with
  | ok d S' =>
    rw [e] at h
    exact fun v H' μ' x R' i => go d S' v H' μ' e x R' i (L.mono R.toRep0 x) (GoodS.mono x h)
  | exc c fs S' =>
    rw [e] at h
    exact fun H' μ' dd x R' xi => h σ H' μ' dd x R' (L.mono R.toRep0 x) xi
  | bad => rw [e] at h; exact h
theorem sA_bind {t : FS → Sto → Out (List D)} {Q : List V → Hp → Prop} {σ : St} {μ : Mu} {H : Hp} {S : Sto} {f : FS} {D' : Ends} {k : List D → Sto → SO} (R : RepS G.K G.C μ S H) (L : Sl G.K μ H f σ) (h : GoodS G D' μ H ((t f S).so f k))
    (go : ∀ d S' v H' μ', t f S = .ok d S' → Ext μ H μ' H' → RepS G.K G.C μ' S' H' → IsL G.K μ' H' d v → Sl G.K μ' H' f σ → GoodS G D' μ' H' (k d S') → Q v H') : liftA G t σ H Q := by
  refine ⟨μ, f, S, R, L, ?_⟩
  cases e : t f S with
  | ok d S' =>
    rw [e] at h
    exact fun v H' μ' x R' i => go d S' v H' μ' e x R' i (L.mono R.toRep0 x) (GoodS.mono x h)
  | exc c fs S' =>
    rw [e] at h
    exact fun H' μ' dd x R' xi => h σ H' μ' dd x R' (L.mono R.toRep0 x) xi
  | bad => rw [e] at h; exact h
theorem sT_bind {t : FS → Sto → Out D} {Q : Bool → Hp → Prop} {σ : St} {μ : Mu} {H : Hp} {S : Sto} {f : FS} {D' : Ends} {k : D → Sto → SO} (R : RepS G.K G.C μ S H) (L : Sl G.K μ H f σ) (h : GoodS G D' μ H ((t f S).so f k)) (hk : ∀ d S, (∀ b, d ≠ .bl b) → k d S = .bad)
    (go : ∀ b S' H' μ', t f S = .ok (.bl b) S' → Ext μ H μ' H' → RepS G.K G.C μ' S' H' → Sl G.K μ' H' f σ → GoodS G D' μ' H' (k (.bl b) S') → Q b H') : liftT G t σ H Q := by
  refine ⟨μ, f, S, R, L, ?_⟩
  cases e : t f S with
  | ok d S' =>
    rw [e] at h
    cases d with
    | bl b => exact fun H' μ' x R' => go b S' H' μ' e x R' (L.mono R.toRep0 x) (GoodS.mono x h)
    | _ => simp only [Out.so_ok] at h; rw [hk _ _ (fun b z => by cases z)] at h; exact h
  | exc c fs S' =>
    rw [e] at h
    exact fun H' μ' dd x R' xi => h σ H' μ' dd x R' (L.mono R.toRep0 x) xi
  | bad => rw [e] at h; exact h
theorem sI_bind {t : FS → Sto → Out Src} {Q : L2.It → Hp → Prop} {σ : St} {μ : Mu} {H : Hp} {S : Sto} {f : FS} {D' : Ends} {k : Src → Sto → SO} (R : RepS G.K G.C μ S H) (L : Sl G.K μ H f σ) (h : GoodS G D' μ H ((t f S).so f k))
    (go : ∀ src S' J H' μ', t f S = .ok src S' → Ext μ H μ' H' → RepS G.K G.C μ' S' H' → Walk G.K G.C μ' H' J src → Sl G.K μ' H' f σ → GoodS G D' μ' H' (k src S') → Q J H') : liftI G t σ H Q := by
  refine ⟨μ, f, S, R, L, ?_⟩
  cases e : t f S with
  | ok d S' =>
    rw [e] at h
    exact fun v H' μ' x R' i => go d S' v H' μ' e x R' i (L.mono R.toRep0 x) (GoodS.mono x h)
  | exc c fs S' =>
    rw [e] at h
    exact fun H' μ' dd x R' xi => h σ H' μ' dd x R' (L.mono R.toRep0 x) xi
  | bad => rw [e] at h; exact h

variable {e : Expr} {ta tb : FS → Sto → Out D} {st : Stmt} {rest : List Stmt} {t u : FS → Sto → SO}
theorem asg_read {tg : Tg} (D' : Ends) (σ : St) (H : Hp) (z : liftS G (fun f S => (ta f S).so f fun d S => asgD tg f d S) D' σ H) : tAsg (lift G ta) (gTg G.K tg) D' σ H := by
  obtain ⟨μ, f, S, R, L, z⟩ := z
  refine s_bind R L z fun d S1 v H1 μ1 e1 x1 R1 i1 L1 g => ?_
  unfold asgD at g
  cases e2 : bindTg S1 tg d f with
  | none => rw [e2] at g; exact g.elim
  | some f' =>
    rw [e2] at g
    exact gTg_ok R1.toRep0 L1 i1 e2 fun σ' L' _ => g σ' H1 μ1 Ext.refl R1 L'
theorem fs_asg {tg : Tg} {et : Expr} (k : G.K = X.K) (he : PE X e (lift G ta)) (hg : PG X et (gTg G.K tg)) (hs : swapsWithSole [et] e spos.line X.env = pure false) (hw : swappedStores [et] e X.env = pure none) (h1 : (assignEach [et] X.env).map (·.2) = [assign et X.env]) :
    PS X (.Assign [et] e spos) (liftS G fun f S => (ta f S).so f fun d S => asgD tg f d S) :=
  PS.imp (ps_asg he hg hs hw h1) fun D' σ H z => asg_read D' σ H z
/-- name = [..] in place -/
theorem fs_setLc {i : Nat} {y : Str} {py : Pos} {elt tg iter : Expr} {ifs : List Expr} {scope : Scope} {own : List (Str × Nat)} {tI : FS → Sto → Out Src} {itg : Tg} {tt : TT} {tc : FS → Sto → Out (Option D)} {te : FS → Sto → Out D} (k : G.K = X.K) (hc : X.calm = true) (hN : X.N.Nodup) (hy : X.N[i]? = some y) (hyl : X.env.scope.names.lookup y = some .local)
    (hsw : swapsWith (.ListComp elt [⟨tg, iter, ifs, 0⟩] scope pos) (some (.Name y py)) spos.line X.env = pure true) (hi : PI X tg iter (liftI G tI)) (ok : BlkOk X.N X.env.scope scope own)
    (hg : ∀ (s : Shared) (H : Hp) (C : Addr) (cl : List (Str × Addr)) (fp : List Addr), PG (X.blk s H scope (compEnvC scope cl C X.env) fp) tg (gTg G.K itg)) (ht : ∀ (s : Shared) (H : Hp) (C : Addr) (cl : List (Str × Addr)) (fp : List Addr), PTs (X.blk s H scope (compEnvC scope cl C X.env) fp) ifs tt) (hcond : CondOk G tt tc)
    (he : ∀ (s : Shared) (H : Hp) (C : Addr) (cl : List (Str × Addr)) (fp : List Addr), PE (X.blk s H scope (compEnvC scope cl C X.env) fp) elt (lift G.calm te)) (hset : notSet iter = true) (hsl : ∀ i ∈ tgSlots itg, i ∈ own.map (·.2)) :
    PS X (.Assign [.Name y py] (.ListComp elt [⟨tg, iter, ifs, 0⟩] scope pos) spos) (liftS G fun f S => ((tI f S).bind fun src S => compD itg tc te (own.map (·.2)) f src S).so f fun d S => asgD (.name i) f d S) := by
  refine PS.imp (PS.kno (ps_setLc (g := fun v σ H Q => KZ X.K H → gTg G.K itg v σ H Q) hc hN hy hyl hsw hi ok (fun s H C cl fp => PG.kno (hg s H C cl fp)) ht he (set_ok hset))) fun D' σ H z => ?_
  have z1 := asg_read D' σ H z
  unfold tAsg at z1 ⊢
  have z2 := comp_read hcond hsl σ H _ z1
  have e1 : (fun (v : V) (σ : St) (H : Hp) (Q : St → Hp → Prop) => KZ G.K H → gTg G.K itg v σ H Q) = fun v σ H Q => KZ X.K H → gTg G.K itg v σ H Q := by rw [k]
  rw [e1] at z2
  have e2 : (SL.kno G.K fun x H1 => gTg G.K (Tg.name i) x σ H1 D'.nx) = SL.kno X.K fun x H1 => gTg G.K (Tg.name i) x σ H1 D'.nx := by rw [k]
  rw [e2] at z2
  exact z2

theorem fs_nil : PSs X [] (liftS G fun f S => .nx f S) := PSs.imp pss_nil fun D' σ H ⟨μ, f, S, R, L, z⟩ => z σ H μ Ext.refl R L
theorem fs_cons (h1 : PS X st (liftS G t)) (h2 : PSs X rest (liftS G u)) : PSs X (st :: rest) (liftS G fun f S => thenS u (t f S)) := by
  refine PSs.imp (pss_cons h1 h2) fun D' σ H ⟨μ, f, S, R, L, z⟩ => ⟨μ, f, S, R, L, ?_⟩
  have z : GoodS G D' μ H (thenS u (t f S)) := z
  cases e : t f S with
  | nx f' S' =>
    rw [e] at z
    exact fun σ' H' μ' x R' L' => ⟨μ', f', S', R', L', GoodS.mono x z⟩
  | brk f' S' => rw [e] at z; exact z
  | ct f' S' => rw [e] at z; exact z
  | ret f' S' => rw [e] at z; exact z
  | exc c fs f' S' => rw [e] at z; exact z
  | bad => rw [e] at z; exact z
theorem fs_exp (he : PE X e (lift G ta)) (hs : swapsWith e none spos.line X.env = pure false) : PS X (.Expr e spos) (liftS G fun f S => (ta f S).so f fun _ S => .nx f S) :=
  PS.imp (ps_expr he hs) fun D' σ H ⟨μ, f, S, R, L, z⟩ => s_bind R L z fun d S1 v H1 μ1 e1 x1 R1 i1 L1 g => g σ H1 μ1 Ext.refl R1 L1
theorem fs_ret (he : PE X e (lift G ta)) : PS X (.Return (some e) spos) (liftS G fun f S => (ta f S).so f fun d S => .ret d S) :=
  PS.imp (ps_ret he) fun D' σ H ⟨μ, f, S, R, L, z⟩ => s_bind R L z fun d S1 v H1 μ1 e1 x1 R1 i1 L1 g => g v H1 μ1 Ext.refl R1 i1
theorem fs_pass : PS X (.Pass spos) (liftS G fun f S => .nx f S) := PS.imp ps_pass fun D' σ H ⟨μ, f, S, R, L, z⟩ => z σ H μ Ext.refl R L
theorem fs_brk : PS X (.Break spos) (liftS G fun f S => .brk f S) := PS.imp ps_break fun D' σ H ⟨μ, f, S, R, L, z⟩ => z σ H μ Ext.refl R L
theorem fs_cont : PS X (.Continue spos) (liftS G fun f S => .ct f S) := PS.imp ps_continue fun D' σ H ⟨μ, f, S, R, L, z⟩ => z σ H μ Ext.refl R L
theorem fs_if {c : Expr} {a b : List Stmt} (hc : PT X c (liftT G ta)) (h1 : PSs X a (liftS G t)) (h2 : PSs X b (liftS G u)) : PS X (.If c a b spos) (liftS G fun f S => (ta f S).so f fun x S => ifD t u f x S) := by
  refine PS.imp (ps_if hc h1 h2) fun D' σ H ⟨μ, f, S, R, L, z⟩ => ?_
  refine sT_bind R L z (fun d S hb => ?_) fun b S1 H1 μ1 e1 x1 R1 L1 g => ?_
  · cases d <;> first | rfl | exact absurd rfl (hb _)
  · cases b with
    | true => rw [if_pos rfl]; exact ⟨μ1, f, S1, R1, L1, g⟩
    | false => rw [if_neg (by decide)]; exact ⟨μ1, f, S1, R1, L1, g⟩
/-! ### while -/
theorem whl_of {f : FS} {S : Sto} {n : Nat} {r : SO} (h : whileN ta t n f S = some r) : whl ta t f S = r := by
  have mono : ∀ (n m : Nat) (f : FS) (S : Sto) (r : SO), n ≤ m → whileN ta t n f S = some r → whileN ta t m f S = some r := by
    intro n
    induction n with
    | zero => intro m f S r _ h; cases h
    | succ n ih =>
      intro m f S r hm h
      cases m with
      | zero => omega
      | succ m =>
        unfold whileN at h ⊢
        split at h
        · split at h
          · exact ih m _ _ _ (by omega) h
          · exact ih m _ _ _ (by omega) h
          · exact h
          · exact h
        · exact h
        · exact h
        · exact h
  have ex : ∃ n r, whileN ta t n f S = some r := ⟨n, r, h⟩
  unfold whl
  rw [dif_pos ex]
  have h2 := Classical.choose_spec (Classical.choose_spec ex)
  have a := mono _ (max n (Classical.choose ex)) f S _ (Nat.le_max_left _ _) h
  have b := mono _ (max n (Classical.choose ex)) f S _ (Nat.le_max_right _ _) h2
  rw [a] at b
  exact (Option.some.inj b).symm
theorem fs_while {c : Expr} {body : List Stmt} (hp : PassesOwn (model X.prog X.w) X.A X.env X.xe) (hc : PT X c (liftT G ta)) (hb : PSs X body (liftS G t)) : PS X (.While c body [] spos) (liftS G fun f S => whl ta t f S) := by
  refine PS.imp (ps_while hp hc hb) fun D' σ H ⟨μ, f, S, R, L, z⟩ => ?_
  have z : GoodS G D' μ H (whl ta t f S) := z
  have ex : ∃ n r, whileN ta t n f S = some r := by
    unfold whl at z
    split at z
    · assumption
    · exact z.elim
  obtain ⟨n, r, hr⟩ := ex
  rw [whl_of hr] at z
  refine ⟨fun m σ H => ∃ μ f S r, RepS G.K G.C μ S H ∧ Sl G.K μ H f σ ∧ whileN ta t m f S = some r ∧ GoodS G D' μ H r, ⟨n, μ, f, S, r, R, L, hr, z⟩, fun m σ H hw => ?_⟩
  obtain ⟨μ, f, S, r, R, L, hr, z⟩ := hw
  cases m with
  | zero => cases hr
  | succ m =>
    unfold whileN at hr
    refine ⟨μ, f, S, R, L, ?_⟩
    cases e : ta f S with
    | bad => rw [e] at hr; cases hr; exact z.elim
    | exc c fs S' =>
      rw [e] at hr
      cases hr
      exact fun H' μ' dd x R' xi => z σ H' μ' dd x R' (L.mono R.toRep0 x) xi
    | ok d S1 =>
      rw [e] at hr
      cases d with
      | bl b =>
        intro H1 μ1 x1 R1
        have L1 := L.mono R.toRep0 x1
        cases b with
        | false =>
          cases hr
          rw [if_neg (by decide)]
          exact z σ H1 μ1 x1 R1 L1
        | true =>
          rw [if_pos rfl]
          refine ⟨fun σ H => ∃ μ f S r, RepS G.K G.C μ S H ∧ Sl G.K μ H f σ ∧ whileN ta t m f S = some r ∧ GoodS G D' μ H r, fun σ' H' w => ⟨m, Nat.lt_succ_self m, w⟩, μ1, f, S1, R1, L1, ?_⟩
          dsimp only at hr
          have z1 := GoodS.mono x1 z
          cases e2 : t f S1 with
          | nx f' S' => rw [e2] at hr; exact fun σ' H' μ' x R' L' => ⟨μ', f', S', r, R', L', hr, GoodS.mono x z1⟩
          | ct f' S' => rw [e2] at hr; exact fun σ' H' μ' x R' L' => ⟨μ', f', S', r, R', L', hr, GoodS.mono x z1⟩
          | brk f' S' => rw [e2] at hr; cases hr; exact z1
          | ret f' S' => rw [e2] at hr; cases hr; exact z1
          | exc c fs f' S' => rw [e2] at hr; cases hr; exact z1
          | bad => rw [e2] at hr; cases hr; exact z1
      | _ => cases hr; exact z.elim
/-! ### for -/
theorem forL_chk {c : List (Nat × Ob)} {bd : D → FS → Sto → SO} {xs : List D} {f : FS} {S : Sto} {D' : Ends} {μ : Mu} {H : Hp} (h : GoodS G D' μ H (forL c bd xs f S)) : Chk c S := by
  cases xs with
  | nil =>
    unfold forL at h
    split at h
    · assumption
    · exact h.elim
  | cons x xs =>
    unfold forL at h
    split at h
    · assumption
    · exact h.elim
theorem fs_for {tg iter : Expr} {itg : Tg} {body : List Stmt} {tI : FS → Sto → Out Src} (hp : PassesOwn (model X.prog X.w) X.A X.env X.xe) (hc : X.calm = true) (hi : PI X tg iter (liftI G tI)) (hg : PG X tg (gTg G.K itg)) (hb : PSs X body (liftS G t)) (hset : notSet iter = true) :
    PS X (.For tg iter body [] spos) (liftS G fun f S => (tI f S).so f fun src S => forL src.chk (forB itg t) src.xs f S) := by
  refine PS.imp (ps_for hp hc hi hg hb (set_ok hset)) fun D' σ H ⟨μ, f, S, R, L, z⟩ => ?_
  refine sI_bind R L z fun src S1 J H1 μ1 e1 x1 R1 w L1 g => ?_
  refine ⟨fun i m σ H => m = src.xs.length - i ∧ i ≤ src.xs.length ∧ ∃ μ f S, Ext μ1 H1 μ H ∧ RepS G.K G.C μ S H ∧ Sl G.K μ H f σ ∧ GoodS G D' μ H (forL src.chk (forB itg t) (src.xs.drop i) f S), ⟨src.xs.length, by simp, Nat.zero_le _, μ1, f, S1, Ext.refl, R1, L1, g⟩, fun i m σ H hw => ?_⟩
  obtain ⟨em, hle, μ2, f2, S2, x2, R2, L2', g2⟩ := hw
  have ck := forL_chk g2
  have gr := x2.grow
  cases hdr : src.xs.drop i with
  | nil =>
    have hi : src.xs.length ≤ i := by
      have := congrArg List.length hdr
      rw [List.length_drop] at this
      simp at this
      omega
    refine .inl ⟨w.stop i μ2 S2 H gr R2.toRep0 ck hi, ?_⟩
    rw [hdr] at g2
    unfold forL at g2
    rw [if_pos ck] at g2
    exact g2 σ H μ2 Ext.refl R2 L2'
  | cons d rest =>
    obtain ⟨hget, hdr2⟩ := drop_get hdr
    have hi : i < src.xs.length := (List.getElem?_eq_some_iff.mp hget).1
    rw [hdr] at g2
    unfold forL at g2
    rw [if_pos ck] at g2
    refine .inr ⟨w.go i μ2 S2 H d gr R2.toRep0 ck hget, fun σ H => ∃ μ f S, Ext μ1 H1 μ H ∧ RepS G.K G.C μ S H ∧ Sl G.K μ H f σ ∧ GoodS G D' μ H (forL src.chk (forB itg t) (src.xs.drop (i + 1)) f S), fun σ' H' w' => ⟨src.xs.length - (i + 1), by omega, rfl, by omega, w'⟩, fun x H' hy => ?_⟩
    obtain ⟨rfl, ix⟩ := w.yld i μ2 S2 H d x H' gr R2.toRep0 ck hget hy
    unfold forB at g2
    cases eb : bindTg S2 itg d f2 with
    | none => simp only [eb] at g2; exact g2.elim
    | some f' =>
      simp only [eb] at g2
      refine gTg_ok R2.toRep0 L2' ix eb fun σ' Ls _ => ⟨μ2, f', S2, R2, Ls, ?_⟩
      cases e2 : t f' S2 with
      | nx f' S' => rw [e2] at g2; exact fun σ' H' μ' x R' L' => ⟨μ', f', S', x2.trans x, R', L', by rw [hdr2]; exact GoodS.mono x g2⟩
      | ct f' S' => rw [e2] at g2; exact fun σ' H' μ' x R' L' => ⟨μ', f', S', x2.trans x, R', L', by rw [hdr2]; exact GoodS.mono x g2⟩
      | brk f' S' => rw [e2] at g2; exact g2
      | ret f' S' => rw [e2] at g2; exact g2
      | exc c fs f' S' => rw [e2] at g2; exact g2
      | bad => rw [e2] at g2; exact g2
end
end SL
set_option Elab.async false
set_option linter.all false
set_option maxRecDepth 100000
set_option maxHeartbeats 1000000
/-! B0: stores into lists, op=, raise, try. -/
namespace SL
open PySem PySem.Spec L2
section
variable {X : Cx} {G : Gx} {pos spos : Pos} {C : Nat → Addr} {e o i : Expr} {ta tb tc : FS → Sto → Out D}
/-! ### o[i] = e -/
def rSetD : TSet := fun x y v H Q => rSetL x y v H Q ∨ ∃ a H', x = .ref a ∧ DPut H a y v H' ∧ Q H'
theorem set_D (hu : X.A.units + 1 < cLine) : PSet X rSetD := by
  intro pins s σ H o i v ov iv u Q I ro ri rv h
  rcases h with h | ⟨a, H', rfl, g, q⟩
  · exact set_list pins s σ H o i v ov iv u Q I ro ri rv h
  · cases ro
    exact d_setItem hu I g ri rv fun s' I' => ⟨H', I', q⟩
theorem putD_ok {K : PySem.W.Frag} {μ : Mu} {H : Hp} {S S' : Sto} {d j w : D} {x y v : V} {Q : Hp → Prop} (R : RepS K C μ S H) (i1 : Is K μ H d x) (i2 : Is K μ H j y) (i3 : Is K μ H w v) (h : putD d j w S = .ok () S')
    (q : ∀ H' , Ext μ H μ H' → (KZ K H' → RepS K C μ S' H') → Q H') : rSetD x y v H Q := by
  unfold putD at h
  cases d with
  | ref k =>
    dsimp only at h
    cases e1 : S[k]? with
    | none => rw [e1] at h; cases h
    | some ob =>
      rw [e1] at h
      cases ob with
      | lst ds =>
        dsimp only at h
        unfold putL at h
        cases j with
        | int j =>
          cases i2
          dsimp only at h
          cases e2 : placeOf j ds.length with
          | none => rw [e2] at h; cases h
          | some m =>
            rw [e2] at h
            cases h
            obtain ⟨a, rfl, hm, vs, hv, l⟩ := R.at i1 e1
            have ha : a ∈ μ.l := List.mem_of_getElem? hm
            refine .inl ⟨a, vs, j, m, rfl, rfl, hv, by rw [l.length]; exact e2, q _ (ext_write ha) fun z => R.write hm z ⟨_, upd_same, ?_⟩⟩
            exact (l.set (i3) m).mono R.toRep0 (ext_write ha)
        | _ => cases h
      | dct ks ds =>
        dsimp only at h
        unfold putM at h
        cases e2 : dkOf j with
        | none => rw [e2] at h; cases h
        | some kk =>
          rw [e2] at h
          dsimp only at h
          split at h
          · rename_i hl
            cases h
            obtain ⟨a, rfl, hm, kvs, hv, ek, l⟩ := R.at i1 e1
            have ha : a ∈ μ.l := List.mem_of_getElem? hm
            cases dkOf_is i2 e2
            obtain ⟨p1, p2⟩ := kvs_put (k := kk) i3 ek l
            refine .inr ⟨a, _, rfl, DPut.k hv (by rw [kvs_len ek, szl]; exact hl), q _ (ext_write ha) fun z => R.write hm z ⟨_, upd_same, p1, ?_⟩⟩
            exact p2.mono R.toRep0 (ext_write ha)
          · cases h
      | ins _ _ => cases h
      | exc _ _ => cases h
  | _ => cases h
theorem putD_ne (d j w : D) (S : Sto) : ∀ c fs S', putD d j w S ≠ .exc c fs S' := by
  intro c fs S' h
  unfold putD putL putM at h
  repeat' (first | cases h | split at h)
/-- behind a store the layer's invariant again -/
def knoSet (K : PySem.W.Frag) (t : TSet) : TSet := fun o i v H Q => t o i v H fun H' => KZ K H' → Q H'
theorem kno_set {t : TSet} (h : PSet X t) : PSet X (knoSet X.K t) := fun pins s σ H o i v ov iv u Q I ro ri rv q =>
  thn (h pins s σ H o i v ov iv u _ I ro ri rv q) fun _ s' ⟨H', I', z⟩ => ⟨H', I', z (kz_of I')⟩
theorem so_ok_of {D' : Ends} {μ : Mu} {H : Hp} {f : FS} {p : Out Unit} {k : Unit → Sto → SO} (ne : ∀ c fs S', p ≠ .exc c fs S') (h : GoodS G D' μ H (p.so f k)) : ∃ S', p = .ok () S' ∧ GoodS G D' μ H (k () S') := by
  cases p with
  | ok u S' => exact ⟨S', rfl, h⟩
  | exc c fs S' => exact absurd rfl (ne c fs S')
  | bad => exact h.elim
theorem fs_put {p : Pos} (k : G.K = X.K) (hu : X.A.units + 1 < cLine) (he : PE X e (lift G ta)) (ho : PE X o (lift G tb)) (hi : PE X i (lift G tc)) (hs : swapsWithSole [.Subscript o i p] e spos.line X.env = pure false) (hsl : notSlice i = true) (hw : swappedStores [.Subscript o i p] e X.env = pure none) :
    PS X (.Assign [.Subscript o i p] e spos) (liftS G fun f S => (ta f S).so f fun d S => (tb f S).so f fun o S => (tc f S).so f fun i S => (putD o i d S).so f fun _ S => .nx f S) := by
  have hsub : ∀ v, assign (.Subscript o i p) X.env v = (do
      let ov ← holding [v] (eval o X.env)
      let iv ← holding [v, ov] (eval i X.env)
      standAt p
      holding [v, ov, iv] (setItem ov iv v)
      release [v, ov, iv] []) := by
    intro v
    cases i <;> first | rfl | cases hsl
  refine PS.imp (ps_asg he (pg_sub ho hi (kno_set (set_D hu)) hsub) hs hw) fun D' σ H ⟨μ, f, S, R, L, z⟩ => ?_
  refine s_bind R L z fun d S1 v H1 μ1 e1 x1 R1 i1 L1 g => ?_
  refine s_bind R1 L1 g fun d2 S2 v2 H2 μ2 e2 x2 R2 i2 L2' g2 => ?_
  refine s_bind R2 L2' g2 fun d3 S3 v3 H3 μ3 e3 x3 R3 i3 L3 g3 => ?_
  obtain ⟨S4, e4, g4⟩ := so_ok_of (putD_ne _ _ _ _) g3
  refine putD_ok R3 (i2.mono R2.toRep0 x3) i3 ((i1.mono R1.toRep0 x2).mono R2.toRep0 x3) e4 fun H' x4 w kz => ?_
  rw [← k] at kz
  exact g4 σ H' μ3 x4 (w kz) (L3.mono R3.toRep0 x4)

/-! ### op= -/
def opA : Bop → Operator
  | .add => .Add
  | .sub => .Sub
  | .mul => .Mult
  | .mod => .Mod
  | .fdiv => .FloorDiv
  | .pow => .Pow
def rAug (op : Bop) : TIp := fun x y H Q => ∃ i j k, x = .int i ∧ y = .int j ∧ augD op (.int i) (.int j) [] = .ok (.int k) [] ∧ Q (.int k) H
theorem ip_aug (op : Bop) : PIp X (opA op) (rAug op) := by
  intro pins s σ H x y v u Q I rx ry ⟨i, j, k, e1, e2, e3, q⟩
  cases op with
  | add => cases e3; exact ip_add pins s σ H x y v u Q I rx ry ⟨i, j, e1, e2, q⟩
  | sub => cases e3; exact ip_sub pins s σ H x y v u Q I rx ry ⟨i, j, e1, e2, q⟩
  | _ => cases e3
theorem augD_ok {op : Bop} {a b : D} {S : Sto} {D' : Ends} {μ : Mu} {H : Hp} {f : FS} {k : D → Sto → SO} (h : GoodS G D' μ H ((augD op a b S).so f k)) : ∃ i j z, a = .int i ∧ b = .int j ∧ augD op (.int i) (.int j) [] = .ok (.int z) [] ∧ GoodS G D' μ H (k (.int z) S) := by
  cases op <;> cases a <;> try (exact h.elim)
  all_goals cases b <;> try (exact h.elim)
  all_goals exact ⟨_, _, _, rfl, rfl, rfl, h⟩
theorem fs_aug {n : Nat} {x : Str} {op : Bop} {p : Pos} (hN : X.N.Nodup) (hi : X.N[n]? = some x) (hx : Loc X.env.scope x) (hf : X.fn x = true ∨ X.env.scope.names.lookup x = some .local) (he : PE X e (lift G ta)) : PS X (.AugAssign (.Name x p) (opA op) e spos) (liftS G fun f S => augN op n ta f S) := by
  refine PS.imp (ps_aug hN hi hx he (ip_aug op) hf) fun D' σ H ⟨μ, f, S, R, L, z⟩ => ?_
  have z : GoodS G D' μ H (augN op n ta f S) := z
  unfold augN at z
  split at z
  · rename_i a ha
    obtain ⟨v, hv, iv⟩ := L.at_ n a ha
    refine ⟨v, hv, s_bind R L z fun d S1 w H1 μ1 e1 x1 R1 i1 L1 g => ?_⟩
    obtain ⟨i, j, r, rfl, rfl, er, g1⟩ := augD_ok g
    cases iv; cases i1
    exact ⟨i, j, r, rfl, rfl, er, g1 _ H1 μ1 Ext.refl R1 (L1.set rfl)⟩
  · exact z.elim
/-- o[i], by values: a list of the store -/
def rGet (K : PySem.W.Frag) : V → V → Hp → VK → Prop := fun x y H Q => ∃ (p : Addr) (xs : List V) (i : Int) (v : V), x = .ref p ∧ y = .int i ∧ H p = some (.lst xs) ∧ atI xs i = some v ∧ Q v H
theorem get_list : PGet X (rGet X.K) := by
  intro pins s σ H o i ov iv Q I ro ri ⟨p, xs, k, z, e1, e2, hp, he, q⟩
  subst e1 e2
  cases ro
  obtain ⟨t, rfl⟩ := ri
  obtain ⟨its, r, pl, hz⟩ := I.list (show SqL X.K H p xs from .inl (.inl hp))
  obtain ⟨j, h1, h2, h3, h4, h5⟩ := atI_get he
  obtain ⟨w, ew, rw'⟩ := r.get h2
  have hl := r.length
  have hn := line63
  have fin : EP X pins σ Q w s := ⟨z, H, I, rw', q⟩
  by_cases h0 : 0 ≤ k
  · have hj : k.toNat = j := by
      rw [seqIndex_of h0 h5] at h1
      exact Option.some.inj h1
    exact wpAny_getItem_list pl.isList h0 (by omega) (by rw [hj]; simpa using ew) fin
  · have hj : (k + (its.toArray.size : Int)).toNat = j := by
      rw [seqIndex_neg (by omega) h4] at h1
      rw [List.size_toArray, ← hl]
      exact Option.some.inj h1
    exact wpAny_getItem_list_neg pl.isList (by omega) (by rw [List.size_toArray] <;> omega) (by omega) (by rw [hj]; simpa using ew) fin
theorem augGet_ok {D' : Ends} {μ : Mu} {H : Hp} {S : Sto} {d j : D} {x y : V} {f : FS} {k : D → Sto → SO} (R : RepS G.K G.C μ S H) (i1 : Is G.K μ H d x) (i2 : Is G.K μ H j y) (h : GoodS G D' μ H ((augGet d j S).so f k)) : ∃ (p : Addr) (xs : List V) (i : Int) (v : V) (w : D), x = .ref p ∧ y = .int i ∧ H p = some (.lst xs) ∧ atI xs i = some v ∧ Is G.K μ H w v ∧ GoodS G D' μ H (k w S) := by
  cases d with
  | ref n =>
    cases j with
    | int j =>
      cases i2
      have e0 : augGet (.ref n) (.int j) S = (match items S (.ref n) with
        | some ds => match placeOf j ds.length with
          | some k => match ds[k]? with
            | some d => .ok d S
            | none => .bad
          | none => .bad
        | none => .bad) := rfl
      rw [e0] at h
      cases e1 : items S (.ref n) with
      | none => rw [e1] at h; exact h.elim
      | some ds =>
        rw [e1] at h
        dsimp only at h
        cases e2 : placeOf j ds.length with
        | none => rw [e2] at h; exact h.elim
        | some m =>
          rw [e2] at h
          dsimp only at h
          cases e3 : ds[m]? with
          | none => rw [e3] at h; exact h.elim
          | some w =>
            rw [e3] at h
            obtain ⟨a, vs, rfl, hq, l⟩ := R.items i1 e1
            obtain ⟨v, e4, iv⟩ := at_isL l e2 e3
            exact ⟨a, vs, j, v, w, rfl, rfl, hq, e4, iv, h⟩
    | _ => exact h.elim
  | _ => exact h.elim
theorem fs_augS {op : Bop} {p : Pos} (k : G.K = X.K) (hu : X.A.units + 1 < cLine) (ho : PE X o (lift G ta)) (hi : PE X i (lift G tb)) (he : PE X e (lift G tc)) (hsl : notSlice i = true) :
    PS X (.AugAssign (.Subscript o i p) (opA op) e spos) (liftS G fun f S => (ta f S).so f fun o S => (tb f S).so f fun i S => (augGet o i S).so f fun a S => (tc f S).so f fun b S => (augD op a b S).so f fun d S => (putD o i d S).so f fun _ S => .nx f S) := by
  have hst : ∀ ov iv new, augStore i ov iv new = (do holding [new, ov, iv] (setItem ov iv new); release [new, ov, iv] []; pure .next) := by
    intro ov iv new
    cases i <;> first | rfl | cases hsl
  refine PS.imp (ps_augS ho hi get_list he (ip_aug op) (kno_set (set_D hu)) hst) fun D' σ H ⟨μ, f, S, R, L, z⟩ => ?_
  refine s_bind R L z fun d S1 v H1 μ1 e1 x1 R1 i1 L1 g => ?_
  refine s_bind R1 L1 g fun d2 S2 v2 H2 μ2 e2 x2 R2 i2 L2' g2 => ?_
  have i1' := i1.mono R1.toRep0 x2
  obtain ⟨pa, xs, n, w, dw, ep, en, hp, ha, iw, g3⟩ := augGet_ok R2 i1' i2 g2
  refine ⟨pa, xs, n, w, ep, en, hp, ha, ?_⟩
  refine s_bind R2 L2' g3 fun d3 S3 v3 H3 μ3 e3 x3 R3 i3 L3 g4 => ?_
  obtain ⟨a, b, r, rfl, rfl, er, g5⟩ := augD_ok g4
  cases iw; cases i3
  refine ⟨a, b, r, rfl, rfl, er, ?_⟩
  obtain ⟨S4, e4, g6⟩ := so_ok_of (putD_ne _ _ _ _) g5
  refine putD_ok R3 (i1'.mono R2.toRep0 x3) (i2.mono R2.toRep0 x3) (show Is G.K μ3 H3 (.int r) (.int r) from rfl) e4 fun H' x4 w kz => ?_
  rw [← k] at kz
  exact g6 σ H' μ3 x4 (w kz) (L3.mono R3.toRep0 x4)
end
end SL
set_option Elab.async false
set_option linter.all false
set_option maxRecDepth 100000
set_option maxHeartbeats 1000000
/-! B1: raise; a try whose error is kept as a value. -/
namespace SL
open PySem PySem.Spec L2
section
variable {X : Cx} {pins : List (Addr × Obj)} {σ : St} {H : Hp} {s s2 : Shared} {a : Addr} {oe : Obj} {vs : Array Value} {cls : Value} {d : Option Addr}
/-- an object that came after s is tracked from now on -/
theorem track (I : Inv X pins σ H s) (n0 : s.heap.get? a = none) (J : Inv X pins σ H s2) (e : s2.heap.get? a = some oe) (z : Zc cls d oe) (dv : oe.data = .fields vs) (na : H a = none) (nl : a ≠ X.env.locals) (hx : X.ex = []) : Inv X pins σ (upd H a (ExT cls d a)) s2 := by
  have n1 : X.s_0.heap.get? a = none := by
    cases q : X.s_0.heap.get? a with
    | none => rfl
    | some w =>
      obtain ⟨w', q'⟩ := I.base.there a w q (by rw [hx]; simp)
      rw [n0] at q'; cases q'
  have ne : ∀ {b : Addr} {w : Obj}, X.s_0.heap.get? b = some w → b ≠ a := fun q r => by rw [r, n1] at q; cases q
  have keepH : ∀ {b : Addr} {w : HO}, H b = some w → upd H a (ExT cls d a) b = some w := fun q => by rw [upd_ne (ne_of_none q na)]; exact q
  refine ⟨J.ok, J.os, J.bare, ⟨J.base.keep, J.base.slot, fun b w q r t => ?_, J.base.there, fun b xs q => keepH (J.base.tups b xs q), fun b w u q => keepH (J.base.frzs b w u q), fun b ps q => ?_⟩, J.loc, J.cell, ?_, fun y c q => ?_, fun p hp => ?_, ?_, J.len⟩
  · rw [upd_ne (ne q)]; exact J.base.free b w q r t
  · obtain ⟨more, q'⟩ := J.base.tbls b ps q
    exact ⟨more, keepH q'⟩
  · rw [upd_ne (Ne.symm nl)]; exact J.free
  · have hc : c ≠ a := fun r => by
      obtain ⟨v, w, q1, q2⟩ := J.cell y c q
      rw [r, e] at q1
      cases q1
      rw [dv] at q2
      cases q2
    rw [upd_ne hc]; exact J.freeC y c q
  · obtain ⟨p1, p2, p3⟩ := J.pin p hp
    have hpa : p.1 ≠ a := fun r => by
      have q := (I.pin p hp).1
      rw [r, n0] at q; cases q
    exact ⟨p1, by rw [upd_ne hpa]; exact p2, p3⟩
  · exact J.hok.laidN (fun _ _ q => q) na ⟨⟨oe, vs, e, z, dv⟩, ⟨oe, e⟩, fun _ _ ⟨o, v, q, r⟩ k => ⟨o, v, k o q, r⟩⟩
/-- into the suite, and back -/
theorem inSuite (I : Inv X pins σ H s) (a : Addr) : Inv (X.suite a (X.pn ++ pins)) [] σ H s :=
  ⟨I.ok.suite a _, I.os, I.bare, I.base, I.loc, I.cell, I.free, I.freeC, fun p hp => I.pin p (by simpa using hp), I.hok, I.len⟩
theorem outSuite {pl : List (Addr × Obj)} (ok : X.Ok) (I : Inv (X.suite a (X.pn ++ pins)) pl σ H s) : Inv X pins σ H s :=
  ⟨ok, I.os, I.bare, I.base, I.loc, I.cell, I.free, I.freeC, fun p hp => I.pin p (List.mem_append_left _ hp), I.hok, I.len⟩
end
/-- the ends of a suite whose name (slot i) is gone behind it -/
def goneE (i : Nat) (D : Ends) : Ends := ⟨fun σ H => D.nx (σ.set i none) H, D.rt, fun σ H => D.bk (σ.set i none) H, fun σ H => D.ct (σ.set i none) H⟩
/-- what 'except x as n' wishes, where the suite may keep the error -/
def wKeep (K : PySem.W.Frag) (c : Value) (i : Nat) (ts : Addr → TS) (Wout : WX) (D : Ends) : WX := fun cls d σ H =>
  ∃ b, PySem.W.exmOne K cls c = some b ∧ (b = true → ∀ a, H a = none → ts a (goneE i D) (σ.set i (some (.ref a))) (upd H a (ExT cls d a))) ∧ (b = false → Wout cls d σ H)
section
variable {X : Cx} {x n : Str} {c : Value} {i : Nat} {body suite : List Stmt} {st1 : Stmt} {np pos hpos : Pos} {tb : WX → TS} {ts : Addr → TS} {Wout : WX}
theorem ps_try_keep (hex : X.ex = []) (stk : X.stack = X.env :: X.outer) (frm : X.env.frame = some X.env.locals) (hN : X.N.Nodup) (hi : X.N[i]? = some n) (ln : X.env.kindOf n = some .local) (cn : Names X x c) (tk : Takes X Wout)
    (hb : ∀ (W : WX) (pn : List (Addr × Obj)) (xe : Value → Shared → Prop), Takes (X.tr pn xe) W → PassesOwn (model X.prog X.w) X.A X.env xe → PSs (X.tr pn xe) body (tb W))
    (hsu : ∀ (a : Addr) (pn : List (Addr × Obj)), PSs (X.suite a pn) (st1 :: suite) (ts a)) :
    PS X (.Try body [.ExceptHandler (some (.Name x np)) (some n) (st1 :: suite) hpos] [] [] pos) (fun D σ H => tb (wKeep X.K c i ts Wout D) D σ H) := by
  constructor
  intro pins s σ H D I h
  have ok := I.ok
  have frs' : X.A.frames = some (X.env :: X.outer) := by rw [ok.frames, stk]
  have body_run := (hb (wKeep X.K c i ts Wout D) (X.pn ++ pins) (fun u t1 => wpAny (model X.prog X.w) X.A (noteFrame u X.env) (fun _ t2 => wpAny (model X.prog X.w) X.A (setFlight u none) (fun _ t3 =>
    wpAny (model X.prog X.w) X.A (handleBy u X.env [.ExceptHandler (some (.Name x np)) (some n) (st1 :: suite) hpos]) (SP X pins D) X.xe t3) X.xe t2) X.xe t1) (fun u t air => ?_) PassesOwn.looking).run [] s σ H D (I.toTry _) h
  · refine wpAny_Try_except (wpAny_mono body_run (fun fl t1 z => ?_) (fun _ _ z => z))
    cases fl with
    | next =>
      obtain ⟨σ1, H1, J1, q1⟩ := z
      exact wpAny_execs_nil ⟨σ1, H1, J1.ofTry ok, q1⟩
    | brk =>
      obtain ⟨σ1, H1, J1, q1⟩ := z
      exact ⟨σ1, H1, J1.ofTry ok, q1⟩
    | cont =>
      obtain ⟨σ1, H1, J1, q1⟩ := z
      exact ⟨σ1, H1, J1.ofTry ok, q1⟩
    | ret u =>
      obtain ⟨v1, σ1, H1, J1, r1, q1⟩ := z
      exact ⟨v1, σ1, H1, J1.ofTry ok, r1, q1⟩
  -- an error in the air
  obtain ⟨a, B, t0, pl, σ1, H1, cls, d, rfl, J0, ground, up, sky, na, os, ag, b, ex1, yes, no⟩ := air
  have J : Inv X pins σ1 H1 t0 := J0.ofTry ok
  have sky1 : Sky B (X.env :: X.outer) a (Zc cls d) X.env.locals t.heap := by rw [← stk]; exact sky
  refine Sky.land Zc.steady frs' frm sky1 fun h3 fl3 up3 => ?_
  have J3 : Inv X pins σ1 H1 { t with heap := h3 } := J.landed ground fl3.1 (up.trans up3) os ag
  obtain ⟨o3, v3, g3, z3, d3⟩ := fl3.there
  have out : a ∉ frs (X.env :: X.outer) := fun hm => by
    obtain ⟨_, o', e', hnf⟩ := fl3.2.2.1.mem hm
    rw [g3] at e'; cases e'
    exact hnf _ d3
  have nl : a ≠ X.env.locals := fun q => out (List.mem_filterMap.mpr ⟨X.env, List.mem_cons_self, by rw [frm, q]⟩)
  have n0 : t0.heap.get? a = none := by
    cases q : t0.heap.get? a with
    | none => rfl
    | some w =>
      have q1 := ground a w q (by rw [stk]; exact out)
      rw [fl3.2.1] at q1; cases q1
  refine wpAny_handleBy_cons (codeAny_handlers_test ?_) (by intro q; cases q)
  have tyA : PySem.W.Looks (model X.prog X.w) h3 (typeOf (.ref a)) cls := fun A Q E w k q => wpAny_typeOf_ref (k _ _ g3) (by rw [z3.1]; exact q)
  have match1 := PySem.W.exm_one (M := model X.prog X.w) J3.kIn tyA ex1
  have name1 : ∀ {Q : Value → Shared → Prop} {E : Value → Shared → Prop}, Q c { t with heap := h3 } → wpAny (model X.prog X.w) (X.A.mark (some (.ref a))) (eval (.Name x np) X.env) Q E { t with heap := h3 } := fun {Q E} q => by
    obtain ⟨cg, cd, cm | ⟨cm, cv, cw⟩⟩ := cn
    · exact ld_glob (X := X.suite a (X.pn ++ pins)) (inSuite J3 a) cg cm q cd
    · exact ld_blt (X := X.suite a (X.pn ++ pins)) (inSuite J3 a) cg cm cv q cw cd
  refine name1 (match1.here ?_)
  cases b with
  | true =>
    refine codeAny_handlers_suite_as (HandSPX.lands_againZ fl3 fun h4 fl4 up4 => ?_)
    have J4 : Inv X pins σ1 H1 { t with heap := h4 } := J.landed ground fl4.1 ((up.trans up3).trans up4) os ag
    obtain ⟨o4, v4, g4, z4, d4⟩ := fl4.there
    have T4 := inSuite (track J n0 J4 g4 z4 d4 na nl hex) a
    refine store_ok (X := X.suite a (X.pn ++ pins)) (v := .ref a) T4 hN hi (.inl ln) rfl (fun t5 T5 => ?_) (.inr ln)
    refine wpAny_mono ((hsu a (X.pn ++ pins)).run [] t5 _ _ (goneE i D) T5 (yes rfl a na)) (fun fl t6 z => ?_) (fun _ _ q => q.elim)
    cases fl with
    | next =>
      obtain ⟨σ6, H6, T6, q6⟩ := z
      exact gone_ok (outSuite ok T6) hN hi ln fun t7 J7 => ⟨_, _, J7, q6⟩
    | brk =>
      obtain ⟨σ6, H6, T6, q6⟩ := z
      exact gone_ok (outSuite ok T6) hN hi ln fun t7 J7 => ⟨_, _, J7, q6⟩
    | cont =>
      obtain ⟨σ6, H6, T6, q6⟩ := z
      exact gone_ok (outSuite ok T6) hN hi ln fun t7 J7 => ⟨_, _, J7, q6⟩
    | ret u =>
      obtain ⟨v6, σ6, H6, T6, r6, q6⟩ := z
      exact gone_ok (outSuite ok T6) hN hi ln fun t7 J7 => ⟨_, _, _, J7, r6, q6⟩
  | false =>
    show wpAny _ X.A (handleBy (.ref a) X.env []) _ _ _
    refine wpAny_handleBy_nil ?_
    obtain ⟨k1, k2, k3, o5, v5, T5, p5, y5, g5, z5, d5, f5, _⟩ := id fl3
    unfold PySem.passOn
    refine wpAny_bind (wpAny_field g5 d5 f5 ?_)
    rw [if_neg (show ¬ ((Value.ref T5 == Value.none) = true) from by simp)]
    have fin : wpAny (model X.prog X.w) X.A (setFlight (.ref a) X.env.frame) (fun _ t4 => wpAny (model X.prog X.w) X.A (throw (.ref a) : Sem Flow) (SP X pins D) X.xe t4) X.xe { t with heap := h3 } := by
      rw [frm]
      exact HandSPX.setFlight_upZ fl3 fun h4 hh4 up4 => wpAny_throw (tk _ _ ⟨a, B, t0, pins, σ1, H1, cls, d, rfl, J, ground, (up.trans up3).trans up4, .inr (.inr (by rw [stk]; exact hh4)), na, os, ag, no rfl⟩)
    first
      | exact wpAny_bind fin
      | exact wpAny_bind (wpAny_pure (wpAny_bind fin))
end
end SL
set_option Elab.async false
set_option linter.all false
set_option maxRecDepth 100000
set_option maxHeartbeats 1000000
/-! B2: raise and try, lifted; isinstance of a kept error. -/
namespace SL
open PySem PySem.Spec L2
theorem XIs.mono {K : PySem.W.Frag} {C : Nat → Addr} {μ μ' : Mu} {H H' : Hp} {S : Sto} {fs : List (Nat × D)} {d : Option Addr} (R : Rep0 K C μ S H) (x : Grow μ H μ' H') (h : XIs K μ H fs d) : XIs K μ' H' fs d := by
  cases fs with
  | nil => exact h
  | cons f fs =>
    obtain ⟨p, fv, e1, n, hp, l⟩ := h
    exact ⟨p, fv, e1, x.out p _ hp n, x.kept p _ hp n, l.monoG R x⟩
section
variable {X : Cx} {G : Gx} {pos spos hpos np p1 p2 : Pos} {t : FS → Sto → SO}
theorem PSs.klen {st : List Stmt} {t : TS} (h : PSs X st t) : PSs X st (fun D σ H => σ.length = X.N.length → t D σ H) := ⟨fun pins s σ H D I q => h.run pins s σ H D I (q I.len)⟩
theorem set_thrice {α : Type} (l : List α) (i v : Nat) (x y z : α) : ((l.set i x).set v y).set i z = (l.set v y).set i z := by
  by_cases e : i = v
  · subst e; simp
  · rw [List.set_comm _ _ e, List.set_set]
theorem fs_try {x n m : Str} {i v : Nat} {body : List Stmt} (k : G.K = X.K) (hex : X.ex = []) (stk : X.stack = X.env :: X.outer) (frm : X.env.frame = some X.env.locals) (hN : X.N.Nodup) (hi : X.N[i]? = some n) (hv : X.N[v]? = some m) (ln : X.env.scope.names.lookup n = some .local) (lm : X.env.scope.names.lookup m = some .local)
    (dn : (n == ("__debug__" : Str)) = false) (dc : (n == ("__classdict__" : Str)) = false) (cn : Names X x (.ref (G.C 0))) (tk : Takes X G.W) (hx : ∀ y, PySem.W.exmOne X.K (.ref (G.C y)) (.ref (G.C 0)) = some true)
    (hb : ∀ (W : WX) (pn : List (Addr × Obj)) (xe : Value → Shared → Prop), Takes (X.tr pn xe) W → PassesOwn (model X.prog X.w) X.A X.env xe → PSs (X.tr pn xe) body (liftS ⟨G.K, G.C, W⟩ t)) :
    PS X (.Try body [.ExceptHandler (some (.Name x np)) (some n) [.Assign [.Name m p1] (.Name n p2) spos] hpos] [] [] pos) (liftS G fun f S => tryD 0 i v (t f S)) := by
  have suite : ∀ (a : Addr) (pn : List (Addr × Obj)), PSs (X.suite a pn) [.Assign [.Name m p1] (.Name n p2) spos] (fun D σ H => σ.length = X.N.length → tAsg (tVar i) (gName v) D σ H) := fun a pn =>
    PSs.klen (X := X.suite a pn) (pss_one (ps_set (X := X.suite a pn) hN hv (.inl lm) (pe_var (X := X.suite a pn) hi (.inl ln) dn dc) rfl (.inr lm)))
  refine PS.imp (PS.kno (ps_try_keep hex stk frm hN hi ln cn tk hb suite)) fun D' σ H ⟨μ, f, S, R, L, z⟩ => ⟨μ, f, S, R, L, ?_⟩
  have z : GoodS G D' μ H (tryD 0 i v (t f S)) := z
  cases e : t f S with
  | nx f' S' => rw [e] at z; exact fun σ' H' μ' x R' L' _ => z σ' H' μ' x R' L'
  | brk f' S' => rw [e] at z; exact z
  | ct f' S' => rw [e] at z; exact z
  | ret f' S' => rw [e] at z; exact z
  | bad => rw [e] at z; exact z
  | exc y fs f' S' =>
    rw [e] at z
    have u : under y 0 = true := by simp [under]
    have z : GoodS G D' μ H (.nx ((setAt f' v (.ref S'.length)).set i none) (S' ++ [.exc y fs])) := by
      have e2 : tryD 0 i v (.exc y fs f' S') = .nx ((setAt f' v (.ref S'.length)).set i none) (S' ++ [.exc y fs]) := if_pos u
      rw [e2] at z; exact z
    intro σ' H' μ' dd x' R' L' xi
    refine ⟨true, hx y, fun _ a na hl => ?_, fun q => by cases q⟩
    have li : i < σ'.length := by
      rw [List.length_set] at hl
      rw [hl]
      exact (List.getElem?_eq_some_iff.mp hi).1
    refine ⟨.ref a, by rw [List.getElem?_set_self li], fun kz => ?_⟩
    rw [← k] at kz
    have ob : ObIs G.K G.C (μ'.push a) (upd H' a (ExT (.ref (G.C y)) dd a)) a (.exc y fs) := ⟨dd, upd_same, XIs.mono R'.toRep0 (ext_own na).grow xi⟩
    have R2 := R'.push na kz ob
    have ia : Is G.K (μ'.push a) (upd H' a (ExT (.ref (G.C y)) dd a)) (.ref S'.length) (.ref a) := ⟨a, rfl, by
      show (μ'.l ++ [a])[S'.length]? = some a
      rw [← R'.len]
      simp⟩
    have L2' := ((L'.mono R'.toRep0 (ext_own na)).set (i := i) ia)
    have L3 := (L2'.set (i := v) ia).unset i
    have e3 : (setAt (setAt f' i (.ref S'.length)) v (.ref S'.length)).set i none = (setAt f' v (.ref S'.length)).set i none := set_thrice _ _ _ _ _ _
    rw [e3] at L3
    exact z _ _ _ (x'.trans (ext_own na)) R2 L3
/-- raise X('..') -/
theorem fs_raise {x m : Str} {c j : Nat} {bmB : List Value} {B newId initId : String} (F : ExcBaseFacts B newId initId bmB) (hc : X.calm = true) (tk : Takes X G.W) (q : PySem.W.excIn X.K (G.C c) bmB newId = true) (gC : X.mg x = some (.ref (G.C c))) (kC : PySem.W.keepIn X.K (.ref (G.C c)) = true) (r : Raises X (.ref (G.C c))) (hg : Gl X x) (hdb : (x == ("__debug__" : Str)) = false) :
    PS X (.Raise (some (.Call (.Name x p1) [.Constant (.str m) j p2] [] pos)) none spos) (liftS G fun f S => .exc c [] f S) :=
  PS.imp (ps_raise hc tk (pmk_own F q gC kC r hg hdb)) fun D' σ H ⟨μ, f, S, R, L, z⟩ => z σ H μ none Ext.refl R L rfl
/-! ### isinstance with own classes and ValueError -/
/-- what the module's classes say -/
structure ClsOk (K : PySem.W.Frag) (C : Nat → Addr) : Prop where
  exc : ∀ y, y < 15 → ExcC K (C y)
  kit : ∀ y c, y < 15 → c < 15 → PySem.W.kitOne K (.ref (C y)) (.ref (C c)) = some (under y c)
  ve : ∀ y, y < 15 → PySem.W.kitOne K (.ref (C y)) (.type "ValueError") = some true
  non : ∀ c, c < 15 → ∀ T ∈ ["NoneType", "bool", "int", "str", "tuple", "list"], PySem.W.kitOne K (.type T) (.ref (C c)) = some false
  nve : ∀ T ∈ ["NoneType", "bool", "int", "str", "tuple", "list"], PySem.W.kitOne K (.type T) (.type "ValueError") = some false
  exm : ∀ y, PySem.W.exmOne K (.ref (C y)) (.ref (C 0)) = some true
def rIsX (K : PySem.W.Frag) : List V → Hp → VK → Prop := fun xs H Q => ∃ (a D : Addr) (c : V) (cv : Value) (b : Bool), xs = [.ref a, c] ∧ ClsV c cv ∧ H a = some (ExT (.ref D) none a) ∧ ExcC K D ∧ PySem.W.kitOne K (.ref D) cv = some b ∧ Q (.bl b) H
theorem call_isX : CallR X (.builtin "isinstance") (rIsX X.K) := by
  intro pins s σ H xs us Q I r ⟨a, D, c, cv, b, e0, hc, ha, T, hk, q⟩
  subst e0
  cases r with
  | cons r1 r2 =>
    cases r2 with
    | cons r3 r4 =>
      cases r4
      cases r1
      obtain ⟨⟨oe, vs, g1, ⟨z1, z2⟩, g3⟩, _⟩ := I.hok a _ ha
      have ec := hc.eq r3
      subst ec
      have J : PySem.W.InstAt s.heap a oe D none := by
        obtain ⟨u1, u2, u3, u4⟩ := oe
        dsimp only at z1 z2 g3
        subst z1 z2 g3
        exact ⟨g1, rfl, rfl, trivial⟩
      exact PySem.W.kia_one (PySem.W.handS_kitx_exc T.hg T.hk T.hs T.hd T.ha T.hn T.ht T.hm) I.kIn J hk (fun z => nomatch z) fun tk => ⟨.bl b, H, I.kept (t' := tk) fun _ _ z => z, rfl, q⟩
theorem tyN_ok {S : Sto} {d : D} {T : String} (h : tyN S d = some T) : T ∈ ["NoneType", "bool", "int", "str", "tuple", "list"] := by
  cases d with
  | ref k =>
    cases e : S[k]? with
    | none => simp only [tyN, e] at h; cases h
    | some o =>
      simp only [tyN, e] at h
      cases o with
      | lst _ => cases h; decide
      | ins _ _ => cases h
      | exc _ _ => cases h
      | dct _ _ => cases h
  | dct _ _ => cases h
  | _ => cases h; decide
/-- the answer of isinstance of one class -/
theorem isi_own {μ : Mu} {H : Hp} {S : Sto} {d : D} {v cv : V} {u : Value} {t : Ty} {b : Bool} {Q : VK} (R : RepS G.K G.C μ S H) (T : ClsOk G.K G.C) (i : Is G.K μ H d v) (hc : ClsV cv u) (ht : (∃ c, t = .own c ∧ c < 15 ∧ u = .ref (G.C c)) ∨ (t = .ve ∧ u = .type "ValueError")) (h : isTy S t d = some b) (q : Q (.bl b) H) :
    rIsi G.K [v, cv] H Q ∨ rIsX G.K [v, cv] H Q := by
  have data : ∀ T0, tyN S d = some T0 → b = false → rIsi G.K [v, cv] H Q := fun T0 hT hb => by
    subst hb
    refine ⟨v, cv, .type T0, u, false, rfl, hc, ty_of R i hT, ?_, q⟩
    rcases ht with ⟨c, rfl, hl, rfl⟩ | ⟨rfl, rfl⟩
    · exact T.non c hl _ (tyN_ok hT)
    · exact T.nve _ (tyN_ok hT)
  have bf : ∀ {x : D}, (∀ k, x ≠ .ref k) → isTy S t x = some b → b = false := fun {x} hx hb => by
    rcases ht with ⟨c, rfl, _⟩ | ⟨rfl, _⟩ <;> cases x <;> first | (cases hb; done) | (cases hb; rfl) | exact absurd rfl (hx _)
  cases d with
  | ref k =>
    unfold isTy at h
    dsimp only at h
    cases e1 : S[k]? with
    | none => rw [e1] at h; cases h
    | some o =>
      rw [e1] at h
      cases o with
      | lst ds =>
        refine .inl (data "list" (by simp only [tyN, e1]) ?_)
        rcases ht with ⟨c, rfl, _⟩ | ⟨rfl, _⟩ <;> cases h <;> rfl
      | ins _ _ => rcases ht with ⟨c, rfl, _⟩ | ⟨rfl, _⟩ <;> cases h
      | dct _ _ => rcases ht with ⟨c, rfl, _⟩ | ⟨rfl, _⟩ <;> cases h
      | exc y fs =>
        cases fs with
        | cons _ _ => rcases ht with ⟨c, rfl, _⟩ | ⟨rfl, _⟩ <;> cases h
        | nil =>
          obtain ⟨a, rfl, m, dd, he, xi⟩ := R.at i e1
          cases (show dd = none from xi)
          refine .inr ?_
          rcases ht with ⟨c, rfl, hl, rfl⟩ | ⟨rfl, rfl⟩
          · dsimp only at h
            split at h
            · rename_i hyc
              cases h
              exact ⟨a, _, cv, _, _, rfl, hc, he, T.exc y hyc.1, T.kit y c hyc.1 hyc.2, q⟩
            · cases h
          · dsimp only at h
            split at h
            · rename_i hy
              cases h
              exact ⟨a, _, cv, _, _, rfl, hc, he, T.exc y hy, T.ve y hy, q⟩
            · cases h
  | non => exact .inl (data _ rfl (bf (fun k z => by cases z) h))
  | bl _ => exact .inl (data _ rfl (bf (fun k z => by cases z) h))
  | int _ => exact .inl (data _ rfl (bf (fun k z => by cases z) h))
  | str _ => exact .inl (data _ rfl (bf (fun k z => by cases z) h))
  | tup _ => exact .inl (data _ rfl (bf (fun k z => by cases z) h))
  | lst _ => exact .inl (data _ rfl (bf (fun k z => by cases z) h))
  | scr _ => exact .inl (data _ rfl (bf (fun k z => by cases z) h))
  | dct _ _ => cases h
theorem call_or {f : Value} {r1 r2 : List V → Hp → VK → Prop} (h1 : CallR X f r1) (h2 : CallR X f r2) : CallR X f (fun xs H Q => r1 xs H Q ∨ r2 xs H Q) := fun pins s σ H xs us Q I r q => q.elim (h1 pins s σ H xs us Q I r) (h2 pins s σ H xs us Q I r)
theorem isi_one {t : Ty} {d : D} {S : Sto} {b : Bool} (q : isTys S d [t] = some b) : isTy S t d = some b := by
  unfold isTys at q
  cases q1 : isTy S t d with
  | none => rw [q1] at q; cases q
  | some x =>
    rw [q1] at q
    unfold isTys at q
    cases q
    simp
theorem fe_isiC {a : Expr} {ta : FS → Sto → Out D} {t : Ty} {y : Str} {cv : V} {u : Value} (k : G.K = X.K) (T : ClsOk G.K G.C) (ha : PE X a (lift G ta)) (hs : notStar a = true) (hg : Gl X "isinstance") (hm : X.mg "isinstance" = none) (hy : PE X (.Name y p1) (tC cv)) (hc : ClsV cv u) (ht : (∃ c, t = .own c ∧ c < 15 ∧ u = .ref (G.C c)) ∨ (t = .ve ∧ u = .type "ValueError")) :
    PE X (.Call (.Name "isinstance" np) [a, .Name y p1] [] pos) (lift G fun f S => (ta f S).bind fun x S => isiD [t] x S) := by
  refine PE.imp (pe_callB (call_or call_isi call_isX) hg hm PyProof.Rows.boot_isinstance (pa_cons ha (pa_cons hy pa_nil) (star_cons hs)) (by decide) (by decide) (star_cons hs)) fun σ H Q ⟨μ, f, S, R, L, z⟩ => ?_
  refine lift_bind R L (Good := GoodE G σ μ H Q) z (fun _ _ _ z => z) (fun z => z) fun d S1 v H1 μ1 e1 x1 R1 i1 h1 => ?_
  unfold isiD at h1
  cases q : isTys S1 d [t] with
  | none => rw [q] at h1; exact h1.elim
  | some b =>
    rw [q] at h1
    have r := isi_own R1 T i1 hc ht (isi_one q) (Q := Q) (h1 _ H1 μ1 x1 R1 rfl)
    rw [k] at r
    exact r
end
end SL
set_option Elab.async false
set_option linter.all false
set_option maxRecDepth 100000
set_option maxHeartbeats 1000000
/-! B2b: what is never reached; {}; the keys of a dict; a, b = x, y. -/
namespace SL
open PySem PySem.Spec L2
section
variable {X : Cx} {G : Gx} {e : Expr} {pos spos : Pos}
theorem fe_never : PE X e (lift G fun _ _ => .bad) := ⟨fun pins s σ H Q I ⟨_, _, _, _, _, z⟩ => z.elim⟩
theorem ft_never : PT X e (liftT G fun _ _ => .bad) := ⟨fun pins s σ H Q I ⟨_, _, _, _, _, z⟩ => z.elim⟩
theorem fw_never : PW X e (liftT G fun _ _ => .bad) := ⟨fun wh pins s σ H Q I ⟨_, _, _, _, _, z⟩ => z.elim⟩
theorem fs_never {st : Stmt} : PS X st (liftS G fun _ _ => .bad) := ⟨fun pins s σ H D I ⟨_, _, _, _, _, z⟩ => z.elim⟩
theorem fe_dnew (k : G.K = X.K) : PE X (.Dict [] [] pos) (lift G fun _ S => dnewD S) := by
  refine PE.imp (PE.kno pe_dnewK) fun σ H Q ⟨μ, f, S, R, L, z⟩ p np kz => ?_
  rw [← k] at kz
  exact z _ _ (μ.push p) (ext_own np) (R.push np kz ⟨[], upd_same, rfl, rfl⟩) ⟨p, rfl, by simp [Mu.push, ← R.len]⟩
theorem wipe_one (σ : St) (j : Nat) : L2.wipe σ [j] = σ.set j none := rfl
theorem keys_isL {K : PySem.W.Frag} {μ : Mu} {H : Hp} : ∀ {ks : List DK} {kvs : List (Key × V)}, kvs.map (·.1) = ks.map keyOf → IsL K μ H (ks.map dkD) (kvs.map fun kv => kV kv.1)
  | [], kvs, e => by
    cases kvs with
    | nil => rfl
    | cons _ _ => cases e
  | k :: ks, kvs, e => by
    cases kvs with
    | nil => cases e
    | cons p kvs =>
      rw [List.map_cons, List.map_cons] at e
      injection e with e1 e2
      refine ⟨kV p.1, _, rfl, ?_, keys_isL e2⟩
      rw [e1]
      exact dkD_is k
theorem fe_keys {i j : Nat} {y dn : Str} {scope : Scope} {p1 p2 p3 : Pos} (k : G.K = X.K) (hc : X.calm = true) (hN : X.N.Nodup) (hd : X.N[i]? = some dn) (hv : Vis X.env.scope dn) (hd1 : (dn == ("__debug__" : Str)) = false) (hd2 : (dn == ("__classdict__" : Str)) = false) (ok : BlkOk X.N X.env.scope scope [(y, j)])
    (hg : ∀ (s : Shared) (H : Hp) (C : Addr) (cl : List (Str × Addr)) (fp : List Addr), TgOk (X.blk s H scope (compEnvC scope cl C X.env) fp) j y) (hy : ∀ (s : Shared) (H : Hp) (C : Addr) (cl : List (Str × Addr)) (fp : List Addr), Vis (X.blk s H scope (compEnvC scope cl C X.env) fp).env.scope y)
    (hy1 : (y == ("__debug__" : Str)) = false) (hy2 : (y == ("__classdict__" : Str)) = false) : PE X (.ListComp (.Name y p1) [⟨.Name y p2, .Name dn p3, [], 0⟩] scope pos) (lift G fun f S => keysV f i j S) := by
  refine PE.imp (PE.kno (pe_lock (pe_lc (wi := iKeys (tVar i)) (g := gName j) (tt := tYes) (te := tVar j) (own := [(y, j)]) hc hN (pi_keys (pe_var hd hv hd1 hd2)) ok (fun s H C cl fp => pg_name hN (hg s H C cl fp).1 (hg s H C cl fp).2.1 (hg s H C cl fp).2.2) (fun _ _ _ _ _ => pts_nil) (fun s H C cl fp => pe_var (hg s H C cl fp).1 (hy s H C cl fp) hy1 hy2)))) fun σ H Q ⟨μ, f, S, R, L, z⟩ => ?_
  unfold keysV at z
  dsimp only at z
  cases e1 : f[i]? with
  | none => rw [e1] at z; exact z.elim
  | some o =>
    rw [e1] at z
    cases o with
    | none => exact z.elim
    | some d =>
      dsimp only at z
      split at z
      · rename_i hj
        obtain ⟨v, ev, iv⟩ := L.at_ i d e1
        unfold keysD at z
        cases d with
        | ref n =>
          dsimp only at z
          cases e2 : S[n]? with
          | none => rw [e2] at z; exact z.elim
          | some ob =>
            rw [e2] at z
            cases ob with
            | dct ks ds =>
              dsimp only at z
              obtain ⟨a, rfl, hm, kvs, ha, ek, l⟩ := R.at iv e2
              refine ⟨a, .dK kvs, ha, trivial, fun od => ?_⟩
              refine ⟨.ref a, ev, a, od, rfl, .inl ⟨kvs, upd_same, fun D nD => ?_⟩⟩
              have hDa : D ≠ a := fun q => by rw [q, upd_same] at nD; cases nD
              have nD' : H D = none := by rw [upd_ne hDa] at nD; exact nD
              refine lc_it walk_keys (fun n H' => H' = upd (upd H a (.frz od (.dK kvs))) D (.lst ((kvs.take n).map fun kv => kV kv.1))) ?_ ?_ ?_ ?_
              · rfl
              · intro n H' _ e
                rw [e, upd_ne (Ne.symm hDa), upd_same]
              · intro n x H' H'' hlt e yy
                obtain ⟨rfl, kk, vv, hget, rfl⟩ := yy
                subst e
                show L2.wipe ((L2.wipe σ [j]).set j _) [j] = L2.wipe σ [j] ∧ _
                refine ⟨by rw [wipe_one, wipe_one, List.set_set, List.set_set], ?_⟩
                unfold tYes
                dsimp only
                rw [if_pos rfl]
                refine ⟨kV kk, by
                  show ((L2.wipe σ [j]).set j (some (kV kk)))[j]? = _
                  rw [wipe_one, List.set_set, List.getElem?_set_self (by rw [← L.len]; exact hj)], _, upd_same, ?_, ?_⟩
                · rw [List.length_map, List.length_take]
                  have := R.kz.hd a kvs ha
                  omega
                · show upd (upd _ D _) D _ = _
                  rw [upd_upd]
                  congr 2
                  rw [List.take_add_one, hget]
                  simp
              · intro H' e
                subst e
                refine ⟨by rw [upd_ne (Ne.symm hDa), upd_same], fun kz => ?_⟩
                have eH : upd (upd (upd H a (.frz od (.dK kvs))) D (.lst ((kvs.take kvs.length).map fun kv => kV kv.1))) a (.dK kvs) = upd H D (.lst (kvs.map fun kv => kV kv.1)) := by
                  rw [List.take_length]
                  funext b
                  by_cases hb : b = a
                  · subst hb
                    rw [upd_same, upd_ne (Ne.symm hDa)]
                    exact ha.symm
                  · rw [upd_ne hb]
                    by_cases hb2 : b = D
                    · subst hb2; rw [upd_same, upd_same]
                    · rw [upd_ne hb2, upd_ne hb, upd_ne hb2]
                rw [eH] at kz ⊢
                rw [← k] at kz
                have x := ext_alloc (o := .lst (kvs.map fun kv => kV kv.1)) R.toRep0 nD'
                exact z _ _ _ x (R.alloc nD' kz) ⟨D, _, rfl, R.notin nD', upd_same, keys_isL ek⟩
            | _ => exact z.elim
        | _ => exact z.elim
      · exact z.elim

/-! ### a, b = x, y -/
def starB : Expr → Bool
  | .Starred .. => true
  | _ => false
def nameS (sc : Scope) (line : Nat) : Expr → Option Str
  | .Name id pos => if sc.names.lookup id == some .local && pos.line == line then some id else none
  | _ => none
def parN (sc : Scope) (ts : List Expr) : List Str := ts.filterMap (nameS sc ((ts.head?.map (·.pos.line)).getD 0))
/-- the names that are stored from the right, or none -/
def parW (sc : Scope) (ts vs : List Expr) : Option (List Str) :=
  if (!(ts.length == 2 || ts.length == 3) || vs.length != ts.length) = true then none
  else if vs.any starB = true then none
  else if ((parN sc ts).length != ts.length || (parN sc ts).eraseDups.length != (parN sc ts).length) = true then none
  else if vs.all (foldedForSure 8) = true then none
  else some (parN sc ts)
def parBad (sc : Scope) (ts vs : List Expr) : Bool := (parW sc ts vs).isSome && vs.all (constantsAlone 8)
theorem par_stores {ts vs : List Expr} {kt kv : Nat} {pt pv : Pos} {env : Env} {sc : Scope} (hs : env.scope = sc) (hk : env.scope.kind = .function) (h : parBad sc ts vs = false) : swappedStores [.Tuple ts kt pt] (.Tuple vs kv pv) env = pure (parW sc ts vs) := by
  have hb : env.blockKind = .function := by unfold Env.blockKind; rw [hk]; rfl
  have ky : ∀ y, env.kindOf y = sc.names.lookup y := fun y => by unfold Env.kindOf; rw [hs]
  have hb2 : (env.blockKind != ScopeKind.function) = false := by rw [hb]; rfl
  unfold parBad at h
  unfold swappedStores
  simp only [hb2, ky, Bool.or_false]
  unfold parW at h ⊢
  split
  · rfl
  · rename_i h1
    rw [if_neg h1] at h
    split
    · rename_i h2
      have h2' : vs.any starB = true := h2
      rw [if_pos h2']
    · rename_i h2
      have h2' : ¬ vs.any starB = true := h2
      rw [if_neg h2'] at h ⊢
      split
      · rename_i h3
        have h3' : ((parN sc ts).length != ts.length || (parN sc ts).eraseDups.length != (parN sc ts).length) = true := h3
        rw [if_pos h3']
      · rename_i h3
        have h3' : ¬ ((parN sc ts).length != ts.length || (parN sc ts).eraseDups.length != (parN sc ts).length) = true := h3
        rw [if_neg h3'] at h ⊢
        split
        · rfl
        · rename_i h4
          rw [if_neg h4] at h
          simp only [Option.isSome_some, Bool.true_and] at h
          rw [if_neg (by rw [h]; decide)]
          rfl
theorem setAll_two {f : FS} {i j : Nat} {ds : List D} {f' : FS} (h : setAll f [i, j] ds = some f') : ∃ a b, ds = [a, b] ∧ f' = setAt (setAt f i a) j b := by
  have := setAll_len h
  match ds, this with
  | [a, b], _ => cases h; exact ⟨a, b, rfl, rfl⟩
theorem setAll_three {f : FS} {i j l : Nat} {ds : List D} {f' : FS} (h : setAll f [i, j, l] ds = some f') : ∃ a b c, ds = [a, b, c] ∧ f' = setAt (setAt (setAt f i a) j b) l c := by
  have := setAll_len h
  match ds, this with
  | [a, b, c], _ => cases h; exact ⟨a, b, c, rfl, rfl⟩
theorem fs_par2 {i j : Nat} {x y : Str} {a b : Expr} {t : FS → Sto → Out (List D)} {px py pt : Pos} {kt k2 : Nat} {pt2 : Pos} (hc : X.calm = true) (hN : X.N.Nodup) (hi : X.N[i]? = some x) (hj : X.N[j]? = some y) (hij : i ≠ j)
    (hx : X.env.scope.names.lookup x = some .local) (hy : X.env.scope.names.lookup y = some .local) (ha : PA X [a, b] (liftA G t)) (hw : swappedStores [.Tuple [.Name x px, .Name y py] kt pt] (.Tuple [a, b] k2 pt2) X.env = pure (some [x, y])) :
    PS X (.Assign [.Tuple [.Name x px, .Name y py] kt pt] (.Tuple [a, b] k2 pt2) spos) (liftS G fun f S => (t f S).so f fun ds S => parD f [i, j] ds S) := by
  refine PS.imp (ps_par hc hN hi hj hij hx hy ha hw) fun D' σ H ⟨μ, f, S, R, L, z⟩ => ?_
  refine sA_bind R L z fun ds S1 vs H1 μ1 e1 x1 R1 i1 L1 g => ?_
  unfold parD at g
  cases e2 : setAll f [i, j] ds with
  | none => rw [e2] at g; exact g.elim
  | some f' =>
    rw [e2] at g
    obtain ⟨d1, d2, rfl, rfl⟩ := setAll_two e2
    obtain ⟨v, w, rfl, j1, j2⟩ := isL_two i1
    exact ⟨v, w, rfl, g _ H1 μ1 Ext.refl R1 ((L1.set j1).set j2)⟩
theorem isL_three {K : PySem.W.Frag} {μ : Mu} {H : Hp} {d e c : D} {xs : List V} (i : IsL K μ H [d, e, c] xs) : ∃ v u w, xs = [v, u, w] ∧ Is K μ H d v ∧ Is K μ H e u ∧ Is K μ H c w := by
  obtain ⟨v, r, rfl, i1, i⟩ := i
  obtain ⟨u, w, rfl, i2, i3⟩ := isL_two i
  exact ⟨v, u, w, rfl, i1, i2, i3⟩
theorem fs_par3 {i j l : Nat} {x y z : Str} {a b c : Expr} {t : FS → Sto → Out (List D)} {px py pz pt : Pos} {kt k2 : Nat} {pt2 : Pos} (hc : X.calm = true) (hN : X.N.Nodup) (hi : X.N[i]? = some x) (hj : X.N[j]? = some y) (hl : X.N[l]? = some z) (hij : i ≠ j) (hil : i ≠ l) (hjl : j ≠ l)
    (hx : X.env.scope.names.lookup x = some .local) (hy : X.env.scope.names.lookup y = some .local) (hz : X.env.scope.names.lookup z = some .local) (ha : PA X [a, b, c] (liftA G t)) (hw : swappedStores [.Tuple [.Name x px, .Name y py, .Name z pz] kt pt] (.Tuple [a, b, c] k2 pt2) X.env = pure (some [x, y, z])) :
    PS X (.Assign [.Tuple [.Name x px, .Name y py, .Name z pz] kt pt] (.Tuple [a, b, c] k2 pt2) spos) (liftS G fun f S => (t f S).so f fun ds S => parD f [i, j, l] ds S) := by
  refine PS.imp (ps_par3 hc hN hi hj hl hij hil hjl hx hy hz ha hw) fun D' σ H ⟨μ, f, S, R, L, q⟩ => ?_
  refine sA_bind R L q fun ds S1 vs H1 μ1 e1 x1 R1 i1 L1 g => ?_
  unfold parD at g
  cases e2 : setAll f [i, j, l] ds with
  | none => rw [e2] at g; exact g.elim
  | some f' =>
    rw [e2] at g
    obtain ⟨d1, d2, d3, rfl, rfl⟩ := setAll_three e2
    obtain ⟨v, u, w, rfl, j1, j2, j3⟩ := isL_three i1
    exact ⟨v, u, w, rfl, g _ H1 μ1 Ext.refl R1 (((L1.set j1).set j2).set j3)⟩
/-- not stored from the right: a tuple is made and taken apart -/
theorem par_asg {is : List Nat} {t : FS → Sto → Out (List D)} (hl : is.length ≤ 3) (D' : Ends) (σ : St) (H : Hp) (z : liftS G (fun f S => (t f S).so f fun ds S => parD f is ds S) D' σ H) :
    liftS G (fun f S => ((t f S).bind fun ds S => if ds.length ≤ sz then .ok (.tup ds) S else .bad).so f fun d S => asgD (.tup is) f d S) D' σ H := by
  obtain ⟨μ, f, S, R, L, z⟩ := z
  refine ⟨μ, f, S, R, L, ?_⟩
  dsimp only at z ⊢
  cases e : t f S with
  | exc c fs S' => rw [e] at z; exact z
  | bad => rw [e] at z; exact z
  | ok ds S1 =>
    rw [e] at z
    simp only [Out.ok_bind, Out.so_ok] at z ⊢
    unfold parD at z
    cases e2 : setAll f is ds with
    | none => rw [e2] at z; exact z.elim
    | some f' =>
      rw [e2] at z
      have := setAll_len e2
      rw [if_pos (show ds.length ≤ sz by show _ ≤ 16777216; omega)]
      simp only [Out.so_ok]
      unfold asgD bindTg seqOf
      dsimp only
      rw [e2]
      exact z
end
end SL
set_option Elab.async false
set_option linter.all false
set_option maxRecDepth 100000
set_option maxHeartbeats 1000000
/-! B3: a check of a text against its meaning: expressions. -/
namespace SL
open PySem PySem.Spec L2

/-- what is known of the place of a text -/
structure Rc where
  N : List Str
  sc : Scope
  own : List Str
  allFn : Bool
  fn : List (Str × Nat)
  cl : List (Str × Nat)
  gl : List Nat
  full : Bool
  fnD : List (Str × Nat)
def veL : List Value := [.type "ValueError", .type "Exception", .type "BaseException", .type "object"]
def bNames : List Str := ["len", "int", "str", "repr", "all", "any", "max", "min", "list", "tuple", "isinstance", "range", "bool", "ValueError"]
structure Cok (Φ : Nat → Option Def) (n : Nat) (R : Rc) (X : Cx) (G : Gx) : Prop where
  k : G.K = X.K
  N : X.N = R.N
  nd : X.N.Nodup
  sc : X.env.scope = R.sc
  calm : X.calm = true
  tk : Takes X G.W
  room : Room n X.A
  gd : X.A.guards = some []
  fnO : ∀ x, (x ∈ R.own ∨ R.allFn = true) → X.fn x = true
  blt : ∀ x ∈ bNames, X.mg x = none
  glo : ∀ i ∈ R.gl, ∃ d v u, gloD i = some d ∧ X.mg (gname i) = some u ∧ RelV v u ∧ ∀ μ H, Is G.K μ H d v
  fn : ∀ x g, R.fn.lookup x = some g → ∃ f fd ps, X.mg x = some (.ref f) ∧ PySem.W.keepIn X.K (.ref f) = true ∧ Binds X.K fd ps [] ∧ FnG X.prog X.w X.K X.mg X.base n f fd ps (spF Φ X.K G.C n g)
  fnD : ∀ x g, R.fnD.lookup x = some g → ∃ f fd ps a dus, X.mg x = some (.ref f) ∧ PySem.W.keepIn X.K (.ref f) = true ∧ Binds X.K fd ps dus ∧ Vals [.ref a] dus ∧ (∀ H, SqT X.K H a []) ∧ FnG X.prog X.w X.K X.mg X.base n f fd ps (spF Φ X.K G.C n g)
  cls : ∀ x c, R.cl.lookup x = some c → c < 15 ∧ X.mg x = some (.ref (G.C c)) ∧ PySem.W.keepIn X.K (.ref (G.C c)) = true ∧ Raises X (.ref (G.C c))
  clsOk : R.full = true → ClsOk G.K G.C
  mak : ∀ x c, R.cl.lookup x = some c → c < 13 → PySem.W.excIn X.K (G.C c) veL "ValueError.__new__" = true
def glB (sc : Scope) (x : Str) : Bool := decide (sc.names.lookup x = some .globalImplicit)
def visB (sc : Scope) (x : Str) : Bool := decide (sc.names.lookup x = some .local) || (decide (sc.names.lookup x = some .cell) || decide (sc.names.lookup x = some .free))
def nmB (x : Str) : Bool := !(x == ("__debug__" : Str)) && !(x == ("__classdict__" : Str)) && !(x == ("__name__" : Str))
def tgB (R : Rc) (i : Nat) (x : Str) : Bool := decide (R.N[i]? = some x) && (decide (R.sc.names.lookup x = some .local) || (decide (R.sc.names.lookup x = some .cell) && (R.allFn || decide (x ∈ R.own))))
def tgsB (R : Rc) : List Nat → List Str → Bool
  | [], [] => true
  | i :: is, x :: xs => tgB R i x && tgsB R is xs
  | _, _ => false
def cTg (R : Rc) (tg : Tg) (e : Expr) : Bool := match tg with
  | .name i => match e with
    | .Name x _ => tgB R i x
    | _ => false
  | .tup is => match e with
    | .Tuple es _ _ => match tgNames es with
      | some xs => tgsB R is xs
      | none => false
    | _ => false
section
variable {Φ : Nat → Option Def} {n : Nat} {R : Rc} {X : Cx} {G : Gx}
theorem gl_ok (C : Cok Φ n R X G) {x : Str} (h : glB R.sc x = true) : Gl X x := by
  unfold Gl Env.kindOf
  rw [C.sc]
  exact of_decide_eq_true h
theorem vis_ok (C : Cok Φ n R X G) {x : Str} (h : visB R.sc x = true) : Vis X.env.scope x := by
  rw [C.sc]
  unfold visB at h
  rw [Bool.or_eq_true, Bool.or_eq_true, decide_eq_true_eq, decide_eq_true_eq, decide_eq_true_eq] at h
  exact h
theorem nm_ok {x : Str} (h : nmB x = true) : (x == ("__debug__" : Str)) = false ∧ (x == ("__classdict__" : Str)) = false ∧ x ≠ "__name__" := by
  unfold nmB at h
  simp only [Bool.and_eq_true, Bool.not_eq_true'] at h
  exact ⟨h.1.1, h.1.2, fun e => by rw [e] at h; simp at h⟩
theorem tg_ok (C : Cok Φ n R X G) {i : Nat} {x : Str} (h : tgB R i x = true) : TgOk X i x := by
  unfold tgB at h
  simp only [Bool.and_eq_true, Bool.or_eq_true, decide_eq_true_eq] at h
  refine ⟨by rw [C.N]; exact h.1, ?_, ?_⟩
  · rw [C.sc]
    rcases h.2 with q | q
    · exact .inl q
    · exact .inr q.1
  · rcases h.2 with q | q
    · right; rw [C.sc]; exact q
    · left; exact C.fnO x (q.2.elim .inr .inl)
theorem tgs_ok (C : Cok Φ n R X G) : ∀ {is : List Nat} {xs : List Str}, tgsB R is xs = true → TgsOk X is xs
  | [], [], _ => trivial
  | [], _ :: _, h => by cases h
  | _ :: _, [], h => by cases h
  | i :: is, x :: xs, h => by
    unfold tgsB at h
    rw [Bool.and_eq_true] at h
    exact ⟨tg_ok C h.1, tgs_ok C h.2⟩
theorem cTg_ok (C : Cok Φ n R X G) {tg : Tg} {e : Expr} (h : cTg R tg e = true) : PG X e (gTg G.K tg) := by
  refine pg_tg C.k C.calm C.nd ?_
  unfold cTg at h
  cases tg with
  | name i =>
    cases e with
    | Name x p => exact tg_ok C h
    | _ => cases h
  | tup is =>
    cases e with
    | Tuple es kk p =>
      dsimp only at h
      cases q : tgNames es with
      | none => rw [q] at h; cases h
      | some xs => rw [q] at h; exact ⟨xs, q, tgs_ok C h⟩
    | _ => cases h
end

/-! ### blocks -/
def blkB (N : List Str) (sc scope : Scope) (own : List (Str × Nat)) : Bool := decide (scope.kind = .function) && (scope.names.all fun y => decide (scope.names.lookup y.1 = some y.2)) && (own.all fun p => decide (N[p.2]? = some p.1)) &&
  (scope.names.all fun y => if y.2 = .free then decide (sc.names.lookup y.1 = some .cell) || decide (sc.names.lookup y.1 = some .free) else true) && (scope.names.all fun y => if y.2 = .local ∨ y.2 = .cell then decide (y.1 ∈ own.map (·.1)) || decide (y.1 ∉ N) else true)
theorem blk_ok {N : List Str} {sc scope : Scope} {own : List (Str × Nat)} (h : blkB N sc scope own = true) : BlkOk N sc scope own := by
  unfold blkB at h
  simp only [Bool.and_eq_true, List.all_eq_true, decide_eq_true_eq] at h
  obtain ⟨⟨⟨⟨h1, h2⟩, h3⟩, h4⟩, h5⟩ := h
  refine ⟨h1, h2, h3, fun y hy e => ?_, fun y hy e => ?_⟩
  · have := h4 y hy
    rw [if_pos e] at this
    simpa using this
  · have := h5 y hy
    rw [if_pos e] at this
    simpa using this
def Rc.blk (R : Rc) (scope : Scope) : Rc := { R with sc := relS scope R.sc, own := (scope.names.filter fun y => decide (y.2 = .cell)).map (·.1), allFn := false }
theorem Cok.blk {Φ : Nat → Option Def} {n : Nat} {R : Rc} {X : Cx} {G : Gx} {scope : Scope} {own : List (Str × Nat)} (C : Cok Φ n R X G) (ok : BlkOk X.N X.env.scope scope own) (s : Shared) (H : Hp) (Ca : Addr) (cl : List (Str × Addr)) (fp : List Addr) : Cok Φ n (R.blk scope) (X.blk s H scope (compEnvC scope cl Ca X.env) fp) G.calm where
  k := C.k
  N := C.N
  nd := C.nd
  sc := by show relS scope X.env.scope = relS scope R.sc; rw [C.sc]
  calm := C.calm
  tk := fun _ _ ⟨_, _, _, _, _, _, _, _, _, _, _, _, _, _, _, _, w⟩ => w.elim
  room := C.room
  gd := C.gd
  fnO := fun x h => by
    show (scope.names.lookup x == some .cell) = true
    rcases h with h | h
    · obtain ⟨y, hy, rfl⟩ := List.mem_map.mp h
      obtain ⟨hy1, hy2⟩ := List.mem_filter.mp hy
      rw [ok.uniq y hy1, of_decide_eq_true hy2]
      rfl
    · cases h
  blt := C.blt
  glo := C.glo
  fn := C.fn
  fnD := C.fnD
  cls := fun x c h => let ⟨h1, h2, h3, h4⟩ := C.cls x c h; ⟨h1, h2, h3, h4⟩
  clsOk := C.clsOk
  mak := C.mak

/-! ### the check -/
def opB (op : Bop) (o : Operator) : Bool := match op with
  | .add => decide (o = .Add)
  | .sub => decide (o = .Sub)
  | .mul => decide (o = .Mult)
  | .mod => decide (o = .Mod)
  | .fdiv => decide (o = .FloorDiv)
  | .pow => decide (o = .Pow)
def copA : Cop → CmpOp
  | .eq => .Eq
  | .ne => .NotEq
  | .lt => .Lt
  | .le => .LtE
  | .gt => .Gt
  | .ge => .GtE
  | .isin => .In
  | .notin => .NotIn
def bltS : Blt → Str
  | .len => "len"
  | .int => "int"
  | .str => "str"
  | .repr => "repr"
  | .all => "all"
  | .any => "any"
  | .max => "max"
  | .min => "min"
  | .list => "list"
  | .tuple => "tuple"
  | .sum => "sum"
def bltOk : Blt → Bool
  | .str => false
  | .sum => false
  | _ => true
def mtS : Mt → Str
  | .join => "join"
  | .append => "append"
  | .count => "count"
  | .index => "index"
  | .insert => "insert"
  | .pop => "pop"
def mtOk : Mt → Bool
  | .insert => false
  | .pop => false
  | _ => true
def cstB (d : D) (c : Const) : Bool := match d with
  | .non => match c with
    | .none => true
    | _ => false
  | .bl b => match c with
    | .bool b' => b == b'
    | _ => false
  | .int i => match c with
    | .int j => decide (i = j)
    | _ => false
  | .str x => match c with
    | .str y => decide ((⟨x.toArray⟩ : Str) = y)
    | _ => false
  | _ => false
def tyB (R : Rc) (t : Ty) (y : Str) : Bool := match t with
  | .str => y == "str"
  | .int => y == "int"
  | .bool => y == "bool"
  | .tup => y == "tuple"
  | .lst => y == "list"
  | .own c => R.full && decide (R.cl.lookup y = some c)
  | .ve => R.full && (y == "ValueError")
def tyIs1 : Ty → Bool
  | .own _ => false
  | .ve => false
  | _ => true

/-- may stand as a test -/
def tst : E → Bool
  | .and a b => tst a && tst b
  | .or a b => tst a && tst b
  | .not a => tst a
  | .ite _ _ _ => false
  | .neg _ => false
  | _ => true

def dnewB : Expr → Bool
  | .Dict [] [] _ => true
  | _ => false
def compOne : Expr → Option (Expr × Expr × Expr × List Expr × Scope)
  | .ListComp x [⟨tx, ix, ifs, 0⟩] scope _ => some (x, tx, ix, ifs, scope)
  | _ => none
def nameOf : Expr → Option Str
  | .Name y _ => some y
  | _ => none
def keysB (R : Rc) (i j : Nat) (e : Expr) : Bool := match compOne e with
  | some (x, tx, ix, [], scope) => match nameOf x, nameOf tx, nameOf ix with
    | some y, some y2, some d => decide (y = y2) && (decide (R.N[i]? = some d) && (visB R.sc d && (nmB d && (blkB R.N R.sc scope [(y, j)] && (tgB (R.blk scope) j y && (visB (R.blk scope).sc y && nmB y))))))
    | _, _, _ => false
  | _ => false
theorem compOne_eq {e x tx ix : Expr} {ifs : List Expr} {scope : Scope} (h : compOne e = some (x, tx, ix, ifs, scope)) : ∃ p, e = .ListComp x [⟨tx, ix, ifs, 0⟩] scope p := by
  unfold compOne at h
  split at h
  · cases h; exact ⟨_, rfl⟩
  · cases h
theorem nameOf_eq {e : Expr} {y : Str} (h : nameOf e = some y) : ∃ p, e = .Name y p := by
  unfold nameOf at h
  split at h
  · cases h; exact ⟨_, rfl⟩
  · cases h
def dkB (k : DK) (e : Expr) : Bool := match k with
  | .int i => match e with
    | .Constant (.int j) _ _ => decide (i = j)
    | .UnaryOp .USub (.Constant (.int j) _ _) _ => decide (i = -j)
    | _ => false
  | .str x => match e with
    | .Constant (.str y) _ _ => decide ((⟨x.toArray⟩ : Str) = y)
    | _ => false
def keysAll : List DK → List (Option Expr) → Bool
  | [], [] => true
  | k :: ks, some e :: es => dkB k e && keysAll ks es
  | _, _ => false
/-- a value that hangs on no heap -/
def valB (R : Rc) (e : E) (x : Expr) : Bool := match e with
  | .cst d => match x with
    | .Constant c _ _ => cstB d c
    | _ => false
  | .glo i => match x with
    | .Name y _ => (y == gname i) && (decide (i ∈ R.gl) && (glB R.sc y && nmB y))
    | _ => false
  | _ => false
def valsB (R : Rc) : Es → List Expr → Bool
  | .nil, [] => true
  | .cons e r, x :: xs => valB R e x && valsB R r xs
  | _, _ => false
def dispB (R : Rc) (ks : List DK) (vs : Es) (e : Expr) : Bool := match e with
  | .Dict keys values _ => keysAll ks keys && (valsB R vs values && (decide (keys ≠ []) && (decide (keys.length = values.length) && decide (keys.length ≤ 15))))
  | _ => false
mutual
def cE (R : Rc) : E → Expr → Bool
  | .var i, e => match e with
    | .Name x _ => decide (R.N[i]? = some x) && (visB R.sc x && nmB x)
    | _ => false
  | .cst d, e => match e with
    | .Constant c _ _ => cstB d c
    | _ => false
  | .glo i, e => match e with
    | .Name x _ => (x == gname i) && (decide (i ∈ R.gl) && (glB R.sc x && nmB x))
    | _ => false
  | .tup es, e => match e with
    | .Tuple xs _ _ => cEs R es xs
    | _ => false
  | .lst es, e => match e with
    | .List xs _ => cEs R es xs
    | _ => false
  | .newL es, e => match e with
    | .List xs _ => cEs R es xs
    | _ => false
  | .newC es, e => match e with
    | .Call (.Name f _) (x :: xs) [] _ => (f == "list") && (glB R.sc f && (noStars (x :: xs) && cEs R es (x :: xs)))
    | _ => false
  | .newP a b, e => match e with
    | .BinOp x o y _ => opB .add o && (cE R a x && cE R b y)
    | _ => false
  | .bin op a b, e => match e with
    | .BinOp x o y _ => opB op o && (cE R a x && cE R b y)
    | _ => false
  | .cmp op a b, e => match e with
    | .Compare x [o] [y] _ => decide (o = copA op) && (notSet y && (cE R a x && cE R b y))
    | _ => false
  | .isN a, e => match e with
    | .Compare x [.Is] [.Constant .none _ _] _ => cE R a x
    | _ => false
  | .notN a, e => match e with
    | .Compare x [.IsNot] [.Constant .none _ _] _ => cE R a x
    | _ => false
  | .isB b a, e => match e with
    | .Compare x [.Is] [.Constant (.bool b') _ _] _ => (b == b') && cE R a x
    | _ => false
  | .notB b a, e => match e with
    | .Compare x [.IsNot] [.Constant (.bool b') _ _] _ => (b == b') && cE R a x
    | _ => false
  | .and a b, e => match e with
    | .BoolOp .And [x, y] _ => cE R a x && cE R b y
    | .BoolOp .And (x :: y :: z :: r) p => cE R a x && cE R b (.BoolOp .And (y :: z :: r) p)
    | _ => false
  | .or a b, e => match e with
    | .BoolOp .Or [x, y] _ => cE R a x && cE R b y
    | .BoolOp .Or (x :: y :: z :: r) p => cE R a x && cE R b (.BoolOp .Or (y :: z :: r) p)
    | _ => false
  | .not a, e => match e with
    | .UnaryOp .Not x _ => cE R a x
    | _ => false
  | .neg a, e => match e with
    | .UnaryOp .USub x _ => cE R a x
    | _ => false
  | .ite c a b, e => match e with
    | .IfExp t x y _ => tst c && (cE R c t && (cE R a x && cE R b y))
    | _ => false
  | .sub a i, e => match e with
    | .Subscript x y _ => notSlice y && (cE R a x && cE R i y)
    | _ => false
  | .slc a lo hi, e => match e with
    | .Subscript x (.Slice l h none _) _ => cE R a x && (cB R lo l && cB R hi h)
    | _ => false
  | .call g es, e => match e with
    | .Call (.Name f _) (x :: xs) [] _ => decide (R.fn.lookup f = some g) && (glB R.sc f && (nmB f && (noStars (x :: xs) && cEs R es (x :: xs))))
    | _ => false
  | .callD g es, e => match e with
    | .Call (.Name f _) (x :: xs) [] _ => decide (R.fnD.lookup f = some g) && (glB R.sc f && (nmB f && (noStars (x :: xs) && cEs R es (x :: xs))))
    | _ => false
  | .blt b es, e => match e with
    | .Call (.Name f _) (x :: xs) [] _ => (f == bltS b) && (bltOk b && (glB R.sc f && (noStars (x :: xs) && cEs R es (x :: xs))))
    | _ => false
  | .isi a [t], e => match e with
    | .Call (.Name f _) [x, .Name y _] [] _ => (f == "isinstance") && (glB R.sc f && (glB R.sc y && (nmB y && (tyB R t y && (notStar x && cE R a x)))))
    | _ => false
  | .isi a [t, u], e => match e with
    | .Call (.Name f _) [x, .Tuple [.Name y _, .Name z _] _ _] [] _ => (f == "isinstance") && (glB R.sc f && (glB R.sc y && (glB R.sc z && (nmB y && (nmB z && (tyIs1 t && (tyIs1 u && (tyB R t y && (tyB R u z && (notStar x && cE R a x))))))))))
    | _ => false
  | .isi _ _, _ => false
  | .mth m o es, e => match e with
    | .Call (.Attribute x f ap) (y :: ys) [] cp => (f == mtS m) && (mtOk m && (plainBase x && ((ap.endLine == cp.line) && (noStars (y :: ys) && (decide ((y :: ys).length < 30) && (cE R o x && cEs R es (y :: ys)))))))
    | _ => false
  | .fld _ _, _ => false
  | .comp elt tg it cond own, e => match e with
    | .ListComp x [⟨tx, ix, ifs, 0⟩] scope _ => blkB R.N R.sc scope (own.map fun i => ((R.N[i]?).getD "", i)) && (decide (∀ i ∈ tgSlots tg, i ∈ own) && (notSet ix && (cI R it ix && (cTg (R.blk scope) tg tx && (cC (R.blk scope) cond ifs && cE (R.blk scope) elt x)))))
    | _ => false
  | .never, _ => true
  | .dnew, e => dnewB e
  | .keys i j, e => keysB R i j e
  | .disp ks vs, e => dispB R ks vs e
  | .dget o a d, e => match e with
    | .Call (.Attribute x f ap) [y, z] [] cp => (f == "get") && (plainBase x && ((ap.endLine == cp.line) && (notStar y && (notStar z && (cE R o x && (cE R a y && cE R d z))))))
    | _ => false
def cEs (R : Rc) : Es → List Expr → Bool
  | .nil, xs => match xs with
    | [] => true
    | _ => false
  | .cons e r, xs => match xs with
    | x :: xs => notStar x && (cE R e x && cEs R r xs)
    | _ => false
  | .star e r, xs => match xs with
    | .Starred x _ :: xs => cE R e x && cEs R r xs
    | _ => false
def cB (R : Rc) : Oe → Option Expr → Bool
  | .no, x => match x with
    | none => true
    | _ => false
  | .yes e, x => match x with
    | some x => cE R e x
    | _ => false
def cC (R : Rc) : Oe → List Expr → Bool
  | .no, x => match x with
    | [] => true
    | _ => false
  | .yes e, x => match x with
    | [x] => tst e && cE R e x
    | _ => false
def cI (R : Rc) : It → Expr → Bool
  | .val e, x => cE R e x
  | .range1 a, e => match e with
    | .Call (.Name f _) [x] [] _ => (f == "range") && (glB R.sc f && (notStar x && cE R a x))
    | _ => false
  | .range2 a b, e => match e with
    | .Call (.Name f _) [x, y] [] _ => (f == "range") && (glB R.sc f && (notStar x && (notStar y && (cE R a x && cE R b y))))
    | _ => false
end
end SL
set_option Elab.async false
set_option linter.all false
set_option maxRecDepth 100000
set_option maxHeartbeats 1000000
/-! B3c: displays of dicts, get, stars in displays. -/
namespace SL
open PySem PySem.Spec L2
section
variable {X : Cx} {G : Gx} {e : Expr} {es : List Expr} {pos p : Pos}
theorem fa_star {te : FS → Sto → Out D} {t : FS → Sto → Out (List D)} (k : G.K = X.K) (he : PE X e (lift G te)) (hr : PA X es (liftA G t)) : PA X (.Starred e p :: es) (liftA G fun f S => (te f S).bind fun d S => starD t f d S) := by
  refine PA.imp (StX.pa_star he hr) fun σ H Q ⟨μ, f, S, R, L, z⟩ => ?_
  refine lift_bind R L (Good := GoodA G σ μ H Q) z (fun _ _ _ z => z) (fun z => z) fun d S1 v H1 μ1 e1 x1 R1 i1 h1 => ?_
  unfold starD at h1
  cases e2 : seqOf S1 d with
  | none => rw [e2] at h1; exact h1.elim
  | some xs =>
    rw [e2] at h1
    obtain ⟨a, vs, rfl, hq, l⟩ := R1.seq i1 e2
    rw [← k]
    refine ⟨a, vs, rfl, hq.symm, ?_⟩
    refine liftA_bind R1 (L.mono R.toRep0 x1) (Good := GoodA G σ μ1 H1 Q) (GoodA.mono x1 h1) (fun _ _ _ z => z) (fun z => z) fun ds S2 us H2 μ2 e3 x2 R2 i2 h2 => ?_
    exact h2 _ H2 μ2 x2 R2 ((l.mono R1.toRep0 x2).append i2)
theorem fe_dget {o a d : Expr} {to ta td : FS → Sto → Out D} {apos cpos : Pos} (k : G.K = X.K) (hu : X.A.units + 1 < cLine) (ho : PE X o (lift G to)) (ha : PE X a (lift G ta)) (hd : PE X d (lift G td)) (hb : plainBase o = true) (hl : (apos.endLine == cpos.line) = true) (h1 : notStar a = true) (h2 : notStar d = true) :
    PE X (.Call (.Attribute o "get" apos) [a, d] [] cpos) (lift G fun f S => (to f S).bind fun x S => dgetX ta td f x S) := by
  have tr : backTo cpos (starEach [a, d] X.env) = [(false, eval a X.env), (false, eval d X.env)] := by rw [star_cons h1, star_cons h2]; rfl
  have m : M2 X o "get" apos a d cpos := ⟨base_ok hb, by rw [tr]; rfl, hl, tr⟩
  refine PE.imp (pe_dget2 hu ho ha hd m) fun σ H Q ⟨μ, f, S, R, L, z⟩ => ?_
  refine lift_bind R L (Good := GoodE G σ μ H Q) z (fun _ _ _ z => z) (fun z => z) fun x S1 v H1 μ1 e1 x1 R1 i1 g1 => ?_
  unfold dgetX at g1
  cases q1 : dictOf S1 x with
  | none => rw [q1] at g1; exact g1.elim
  | some kd =>
    rw [q1] at g1
    obtain ⟨ks, ds⟩ := kd
    obtain ⟨b, kvs, rfl, hb1, _, _⟩ := dict_at R1 i1 q1
    refine ⟨b, rfl, .inl ⟨kvs, .inl hb1⟩, ?_⟩
    refine lift_bind R1 (L.mono R.toRep0 x1) (Good := GoodE G σ μ1 H1 Q) (GoodE.mono x1 g1) (fun _ _ _ z => z) (fun z => z) fun y S2 vy H2 μ2 e2 x2 R2 i2 g2 => ?_
    refine lift_bind R2 ((L.mono R.toRep0 x1).mono R1.toRep0 x2) (Good := GoodE G σ μ2 H2 Q) (GoodE.mono x2 g2) (fun _ _ _ z => z) (fun z => z) fun w S3 vw H3 μ3 e3 x3 R3 i3 g3 => ?_
    have ix := (i1.mono R1.toRep0 x2).mono R2.toRep0 x3
    have iy := i2.mono R2.toRep0 x3
    cases q3 : dictOf S3 x with
    | none => rw [q3] at g3; exact g3.elim
    | some kd3 =>
      rw [q3] at g3
      obtain ⟨ks3, ds3⟩ := kd3
      obtain ⟨b3, kvs3, eb, h3, h4, h5⟩ := dict_at R3 ix q3
      cases eb
      unfold dgetD at g3
      cases q4 : dkOf y with
      | none => rw [q4] at g3; exact g3.elim
      | some kk =>
        rw [q4] at g3
        dsimp only at g3
        cases dkOf_is iy q4
        refine ⟨_, DGet.k h3, ?_⟩
        have hh := kvs_get (k := kk) h4 h5
        cases q5 : kGet ks3 ds3 kk with
        | none =>
          rw [q5] at hh g3
          rw [hh]
          exact g3 _ H3 μ3 x3 R3 i3
        | some r =>
          rw [q5] at hh g3
          obtain ⟨u, eu, iu⟩ := hh
          rw [eu]
          exact g3 _ H3 μ3 x3 R3 iu
end
/-! ### displays -/
theorem putK_end {kvs : List (Key × V)} {k : Key} {v : V} (h : k ∉ kvs.map (·.1)) : putK kvs k v = kvs ++ [(k, v)] := by
  unfold putK
  rw [if_neg]
  intro z
  rw [List.any_eq_true] at z
  obtain ⟨p, hp, e⟩ := z
  exact h (List.mem_map.mpr ⟨p, hp, of_decide_eq_true e⟩)
theorem mergeK_app : ∀ (more kvs : List (Key × V)), ((kvs ++ more).map (·.1)).Nodup → mergeK kvs more = kvs ++ more
  | [], kvs, _ => by simp [mergeK]
  | p :: r, kvs, h => by
    have e : mergeK kvs (p :: r) = mergeK (putK kvs p.1 p.2) r := rfl
    have hp : p.1 ∉ kvs.map (·.1) := by
      rw [List.map_append, List.nodup_append] at h
      intro hm
      exact h.2.2 _ hm _ (by simp) rfl
    rw [e, putK_end hp, mergeK_app r]
    · simp
    · simpa using h
section
variable {Φ : Nat → Option Def} {n : Nat} {R : Rc} {X : Cx} {G : Gx}
theorem const_v {d : D} {c : Const} {j : Nat} {p : Pos} (h : cstB d c = true) : ∃ v, PE X (.Constant c j p) (tC v) ∧ ∀ μ H, Is G.K μ H d v := by
  unfold cstB at h
  cases d with
  | non =>
    cases c with
    | none => exact ⟨_, pe_non, fun _ _ => rfl⟩
    | _ => cases h
  | bl b =>
    cases c with
    | bool b' =>
      have e : b = b' := by simpa using h
      subst e
      exact ⟨_, pe_bl, fun _ _ => rfl⟩
    | _ => cases h
  | int b =>
    cases c with
    | int b' =>
      have e : b = b' := of_decide_eq_true h
      subst e
      exact ⟨_, pe_int, fun _ _ => rfl⟩
    | _ => cases h
  | str b =>
    cases c with
    | str b' =>
      have e := of_decide_eq_true (show decide ((⟨b.toArray⟩ : Str) = b') = true from h)
      subst e
      exact ⟨_, pe_str, fun _ _ => rfl⟩
    | _ => cases h
  | _ => cases h
theorem val_v (C : Cok Φ n R X G) {e : E} {x : Expr} (h : valB R e x = true) (c : Nat → List D → Sto → Out D) : ∃ d v, PE X x (tC v) ∧ (∀ f S, evE c e f S = .ok d S) ∧ ∀ μ H, Is G.K μ H d v := by
  unfold valB at h
  cases e with
  | cst d =>
    cases x with
    | Constant cc j p =>
      obtain ⟨v, h1, h2⟩ := const_v (G := G) (X := X) (j := j) (p := p) h
      exact ⟨d, v, h1, fun f S => by unfold evE; rfl, h2⟩
    | _ => cases h
  | glo i =>
    cases x with
    | Name y p =>
      dsimp only at h
      simp only [Bool.and_eq_true, decide_eq_true_eq] at h
      obtain ⟨h1, h2, h3, h4⟩ := h
      have e1 := eq_of_beq h1
      subst e1
      obtain ⟨d, v, u, hd, hm, hr, hi⟩ := C.glo i h2
      obtain ⟨n1, _, _⟩ := nm_ok h4
      exact ⟨d, v, pe_glob (gl_ok C h3) hm hr n1, fun f S => by unfold evE; rw [hd], hi⟩
    | _ => cases h
  | _ => cases h
theorem key_v {k : DK} {e : Expr} (h : dkB k e = true) : PE X e (tC (kV (keyOf k))) := by
  unfold dkB at h
  cases k with
  | int i =>
    dsimp only at h
    split at h
    · have e := of_decide_eq_true h
      subst e
      exact pe_int
    · have e := of_decide_eq_true h
      subst e
      exact PE.imp (pe_un un_neg pe_int) fun σ H Q q => ⟨_, rfl, q⟩
    · cases h
  | str x =>
    dsimp only at h
    split at h
    · have e := of_decide_eq_true h
      subst e
      exact pe_str
    · cases h
theorem pairs_ok (C : Cok Φ n R X G) (c : Nat → List D → Sto → Out D) (pos : Pos) : ∀ (ks : List DK) (keys : List (Option Expr)) (vs : Es) (values : List Expr), keysAll ks keys = true → valsB R vs values = true → keys.length = values.length →
    ∃ (trs : List (TE × TE)) (ds : List D) (us : List V), PPs X pos keys values trs ∧ us.length = ks.length ∧ (∀ σ H Q, Q ((ks.zip us).map fun q => (kV (keyOf q.1), q.2)) H → tPairs trs σ H Q) ∧ (∀ f S, evEs c vs f S = .ok ds S) ∧ ∀ μ H, IsL G.K μ H ds us
  | [], [], .nil, [], _, _, _ => ⟨[], [], [], pps_nil, rfl, fun σ H Q q => q, fun f S => (by unfold evEs; rfl), fun _ _ => rfl⟩
  | k :: ks, some e :: keys, .cons v vs, x :: values, h1, h2, h3 => by
    have h1' : (dkB k e && keysAll ks keys) = true := h1
    have h2' : (valB R v x && valsB R vs values) = true := h2
    rw [Bool.and_eq_true] at h1' h2'
    obtain ⟨trs, ds, us, r1, r2, r3, r4, r5⟩ := pairs_ok C c pos ks keys vs values h1'.2 h2'.2 (by simpa using h3)
    obtain ⟨d, w, q1, q2, q3⟩ := val_v C h2'.1 c
    refine ⟨(tC (kV (keyOf k)), tC w) :: trs, d :: ds, w :: us, pps_cons (key_v h1'.1) q1 r1, by simp [r2], fun σ H Q q => r3 σ H _ q, fun f S => ?_, fun μ H => ⟨w, us, rfl, q3 μ H, r5 μ H⟩⟩
    unfold evEs
    rw [q2 f S, Out.ok_bind, r4 f S]
    rfl
  | [], some _ :: _, _, _, h1, _, _ => by cases h1
  | [], none :: _, _, _, h1, _, _ => by cases h1
  | _ :: _, [], _, _, h1, _, _ => by cases h1
  | _ :: _, none :: _, _, _, h1, _, _ => by cases h1
  | [], [], .nil, _ :: _, _, h2, _ => by cases h2
  | [], [], .cons _ _, [], _, h2, _ => by cases h2
  | [], [], .cons _ _, _ :: _, _, _, h3 => by cases h3
  | [], [], .star _ _, _, _, h2, _ => by cases h2
  | _ :: _, some _ :: _, .nil, [], _, _, h3 => by cases h3
  | _ :: _, some _ :: _, .nil, _ :: _, _, h2, _ => by cases h2
  | _ :: _, some _ :: _, .cons _ _, [], _, h2, _ => by cases h2
  | _ :: _, some _ :: _, .star _ _, _, _, h2, _ => by cases h2
theorem zip_fst : ∀ {ks : List DK} {us : List V}, us.length = ks.length → (((ks.zip us).map fun q => (keyOf q.1, q.2)).map (·.1) = ks.map keyOf) ∧ ((ks.zip us).map fun q => (keyOf q.1, q.2)).map (·.2) = us
  | [], [], _ => ⟨rfl, rfl⟩
  | [], _ :: _, h => by cases h
  | _ :: _, [], h => by cases h
  | k :: ks, u :: us, h => by
    obtain ⟨h1, h2⟩ := zip_fst (ks := ks) (us := us) (by simpa using h)
    exact ⟨by simp only [List.zip_cons_cons, List.map_cons, h1], by simp only [List.zip_cons_cons, List.map_cons, h2]⟩
theorem keysAll_len : ∀ {ks : List DK} {keys : List (Option Expr)}, keysAll ks keys = true → keys.length = ks.length ∧ keys.all (·.isSome) = true
  | [], [], _ => ⟨rfl, rfl⟩
  | [], _ :: _, h => by cases h
  | _ :: _, [], h => by cases h
  | _ :: _, none :: _, h => by cases h
  | k :: ks, some e :: keys, h => by
    have h' : (dkB k e && keysAll ks keys) = true := h
    rw [Bool.and_eq_true] at h'
    obtain ⟨h1, h2⟩ := keysAll_len h'.2
    exact ⟨by simp [h1], by simp [h2]⟩
theorem disp_ok (C : Cok Φ n R X G) (c : Nat → List D → Sto → Out D) {ks : List DK} {vs : Es} {x : Expr} (h : dispB R ks vs x = true) : PE X x (lift G fun f S => (evEs c vs f S).bind fun ds S => dispD ks ds S) := by
  unfold dispB at h
  cases x with
  | Dict keys values pos =>
    dsimp only at h
    simp only [Bool.and_eq_true, decide_eq_true_eq] at h
    obtain ⟨h1, h2, h3, h4, h5⟩ := h
    obtain ⟨trs, ds, us, r1, r2, r3, r4, r5⟩ := pairs_ok C c pos ks keys vs values h1 h2 h4
    obtain ⟨hl, hall⟩ := keysAll_len h1
    refine PE.imp (PE.kno (pe_disp r1 hall h4 h3 h5)) fun σ H Q ⟨μ, f, S, Rr, L, z⟩ p np => ?_
    dsimp only at z
    rw [r4 f S, Out.ok_bind] at z
    unfold dispD at z
    split at z
    · rename_i hc
      obtain ⟨c1, c2, c3⟩ := hc
      obtain ⟨z1, z2⟩ := zip_fst r2
      refine r3 σ _ _ ⟨upd_same, (ks.zip us).map fun q => (keyOf q.1, q.2), by simp [List.map_map, Function.comp_def], ?_, ?_⟩
      · rw [List.length_map, List.length_zip, r2, Nat.min_self]
        exact c2
      · rw [mergeK_app _ _ (by
          rw [List.nil_append, z1]
          unfold List.Nodup at c3 ⊢
          rw [List.pairwise_map]
          exact c3.imp fun {a b} q e => q (keyOf_inj e)), List.nil_append, upd_upd]
        intro kz
        rw [← C.k] at kz
        refine z _ _ _ (ext_alloc Rr.toRep0 np) (Rr.alloc np kz) ⟨p, _, rfl, Rr.notin np, upd_same, z1, ?_⟩
        rw [z2]
        exact r5 _ _
    · exact z.elim
  | _ => cases h
end
end SL
set_option Elab.async false
set_option linter.all false
set_option maxRecDepth 100000
set_option maxHeartbeats 4000000
/-! B4: the check of expressions is sound. -/
namespace SL
open PySem PySem.Spec L2
def isBO : Expr → Bool
  | .BoolOp _ _ _ => true
  | _ => false
def Jd (X : Cx) (G : Gx) (e : E) (x : Expr) (t : FS → Sto → Out D) : Prop := PE X x (lift G t) ∧ (tst e = true → PT X x (liftT G t) ∧ (isBO x = true → PW X x (liftT G t)))
section
variable {Φ : Nat → Option Def} {n : Nat} {R : Rc} {X : Cx} {G : Gx}
theorem Jd.val {e : E} {x : Expr} {t : FS → Sto → Out D} (h : PE X x (lift G t)) (hp : plainTest x = true) : Jd X G e x t := by
  refine ⟨h, fun _ => ⟨ft_val h hp, fun hb => ?_⟩⟩
  cases x <;> first | (cases hb; done) | (cases hp; done)
theorem and2 {a b : Bool} (h : (a && b) = true) : a = true ∧ b = true := by rwa [Bool.and_eq_true] at h
theorem units (C : Cok Φ n R X G) : X.A.units + 100 < cLine := by have := C.room.un; omega
theorem bin_op (C : Cok Φ n R X G) (op : Bop) (o : Operator) (h : opB op o = true) : OpR X (binaryOp o) (rD2 G.K G.C (binD op)) := by
  rw [C.k]
  cases op <;> (have e := of_decide_eq_true (show decide _ = true from h); subst e)
  · exact op_addD
  · exact op_subD
  · exact op_mulD
  · exact op_modD
  · exact op_fdivD
  · exact op_powD
theorem cat_op (C : Cok Φ n R X G) (o : Operator) (h : opB .add o = true) : OpR X (binaryOp o) (rD2 G.K G.C catD) := by
  rw [C.k]
  have e := of_decide_eq_true (show decide _ = true from h)
  subst e
  exact op_catD
theorem cmp_op (C : Cok Φ n R X G) (op : Cop) : OpR X (compareOp (copA op)) (rD2 G.K G.C (cmpD op)) := by
  rw [C.k]
  have u := units C
  cases op
  · exact op_eqDD (by omega)
  · exact op_neDD (by omega)
  · exact op_ltDD
  · exact op_leDD
  · exact op_gtDD
  · exact op_geDD
  · exact op_inDD (by omega)
  · exact op_notinDD (by omega)
theorem cst_ok {d : D} {c : Const} {j : Nat} {p : Pos} (h : cstB d c = true) : PE X (.Constant c j p) (lift G fun _ S => .ok d S) := by
  unfold cstB at h
  cases d with
  | non =>
    cases c with
    | none => exact fe_const pe_non fun _ _ => rfl
    | _ => cases h
  | bl b =>
    cases c with
    | bool b' =>
      have e : b = b' := by simpa using h
      subst e
      exact fe_const pe_bl fun _ _ => rfl
    | _ => cases h
  | int b =>
    cases c with
    | int b' =>
      have e : b = b' := of_decide_eq_true h
      subst e
      exact fe_const pe_int fun _ _ => rfl
    | _ => cases h
  | str b =>
    cases c with
    | str b' =>
      have e := of_decide_eq_true (show decide ((⟨b.toArray⟩ : Str) = b') = true from h)
      subst e
      exact fe_const pe_str fun _ _ => rfl
    | _ => cases h
  | _ => cases h
variable {x : Expr} {xs : List Expr} {t : FS → Sto → Out (List D)} {pos p : Pos}
theorem boot_len' : bootBuiltins "len" = some (.builtin "len") := by decide +kernel
theorem boot_all' : bootBuiltins "all" = some (.builtin "all") := by decide +kernel
theorem boot_any' : bootBuiltins "any" = some (.builtin "any") := by decide +kernel
theorem boot_ve' : bootBuiltins "ValueError" = some (.type "ValueError") := by decide +kernel
theorem blt_ok (C : Cok Φ n R X G) {b : Blt} {f : Str} (hf : (f == bltS b) = true) (hb : bltOk b = true) (hg : glB R.sc f = true) (hs : noStars (x :: xs) = true) (ha : PA X (x :: xs) (liftA G t)) : PE X (.Call (.Name f p) (x :: xs) [] pos) (lift G fun f S => (t f S).bind fun ds S => bltD b ds S) := by
  have e : f = bltS b := by simpa using hf
  subst e
  have g := gl_ok C hg
  have u := units C
  have hm : ∀ s : Str, s ∈ bNames → X.mg s = none := C.blt
  have k := C.k
  cases b with
  | str => cases hb
  | sum => cases hb
  | len => exact fe_blt (by rw [k]; exact bl_len) g (hm _ (by decide)) boot_len' ha hs (by decide) (by decide)
  | int => exact fe_bty (by rw [k]; exact bl_int) g (hm _ (by decide)) PyProof.Rows.boot_int ha hs (by decide) (by decide)
  | repr => exact fe_blt (by rw [k]; exact bl_repr C.gd (by omega)) g (hm _ (by decide)) PyProof.Rows.boot_repr ha hs (by decide) (by decide)
  | all => exact fe_blt (by rw [k]; exact bl_all C.calm) g (hm _ (by decide)) boot_all' ha hs (by decide) (by decide)
  | any => exact fe_blt (by rw [k]; exact bl_any C.calm) g (hm _ (by decide)) boot_any' ha hs (by decide) (by decide)
  | max => exact fe_blt (by rw [k]; exact bl_max C.calm) g (hm _ (by decide)) PyProof.Rows.boot_max ha hs (by decide) (by decide)
  | min => exact fe_blt (by rw [k]; exact bl_min C.calm) g (hm _ (by decide)) PyProof.Rows.boot_min ha hs (by decide) (by decide)
  | list => exact fe_bty (by rw [k]; exact bl_list) g (hm _ (by decide)) PyProof.Rows.boot_list ha hs (by decide) (by decide)
  | tuple => exact fe_bty (by rw [k]; exact bl_tuple) g (hm _ (by decide)) PyProof.Rows.boot_tuple ha hs (by decide) (by decide)
theorem mth_ok (C : Cok Φ n R X G) {m : Mt} {f : Str} {o : Expr} {ta : FS → Sto → Out D} {ap cp : Pos} (hf : (f == mtS m) = true) (hm : mtOk m = true) (hb : plainBase o = true) (hl : (ap.endLine == cp.line) = true) (hs : noStars (x :: xs) = true) (h30 : decide ((x :: xs).length < 30) = true) (ho : PE X o (lift G ta)) (ha : PA X (x :: xs) (liftA G t)) :
    PE X (.Call (.Attribute o f ap) (x :: xs) [] cp) (lift G fun f S => (ta f S).bind fun x S => mthX m t f x S) := by
  have e : f = mtS m := by simpa using hf
  subst e
  have u := units C
  cases m with
  | join => exact fe_mth C.k F.plainAttrs_str F.slot_str_join (by kernel_rfl) mt_joinD rfl ho ha hb hl hs h30
  | append => exact fe_mth C.k F.plainAttrs_list F.slot_list_append (by kernel_rfl) mt_appendD rfl ho ha hb hl hs h30
  | count => exact fe_mth C.k F.plainAttrs_list F.slot_list_count (by kernel_rfl) (mt_countD (by omega)) rfl ho ha hb hl hs h30
  | index => exact fe_mth C.k F.plainAttrs_list F.slot_list_index (by kernel_rfl) (mt_indexDD (by omega)) rfl ho ha hb hl hs h30
  | insert => cases hm
  | pop => cases hm
theorem ty1_ok (C : Cok Φ n R X G) {t : Ty} {y : Str} (h1 : tyIs1 t = true) (h : tyB R t y = true) : ∃ U, tyS t = some U ∧ X.mg y = none ∧ bootBuiltins y = some (.type U) := by
  have hm : ∀ s : Str, s ∈ bNames → X.mg s = none := C.blt
  cases t with
  | own _ => cases h1
  | ve => cases h1
  | str => have e : y = "str" := by simpa [tyB] using h
           subst e; exact ⟨"str", rfl, hm _ (by decide), PyProof.Rows.boot_str⟩
  | int => have e : y = "int" := by simpa [tyB] using h
           subst e; exact ⟨"int", rfl, hm _ (by decide), PyProof.Rows.boot_int⟩
  | bool => have e : y = "bool" := by simpa [tyB] using h
            subst e; exact ⟨"bool", rfl, hm _ (by decide), PyProof.Rows.boot_bool⟩
  | tup => have e : y = "tuple" := by simpa [tyB] using h
           subst e; exact ⟨"tuple", rfl, hm _ (by decide), PyProof.Rows.boot_tuple⟩
  | lst => have e : y = "list" := by simpa [tyB] using h
           subst e; exact ⟨"list", rfl, hm _ (by decide), PyProof.Rows.boot_list⟩
theorem isi_ok (C : Cok Φ n R X G) {t : Ty} {y : Str} {ta : FS → Sto → Out D} {q1 : Pos} (hf : glB R.sc "isinstance" = true) (hy : glB R.sc y = true) (hn : nmB y = true) (h : tyB R t y = true) (hs : notStar x = true) (ha : PE X x (lift G ta)) : PE X (.Call (.Name "isinstance" p) [x, .Name y q1] [] pos) (lift G fun f S => (ta f S).bind fun x S => isiD [t] x S) := by
  have hm : ∀ s : Str, s ∈ bNames → X.mg s = none := C.blt
  obtain ⟨n1, n2, n3⟩ := nm_ok hn
  by_cases h1 : tyIs1 t = true
  · obtain ⟨U, e1, e2, e3⟩ := ty1_ok C h1 h
    exact fe_isi1 C.k e1 ha hs (gl_ok C hf) (hm _ (by decide)) (gl_ok C hy) e2 e3 n3 n1
  · cases t with
    | own c =>
      obtain ⟨hfu, h⟩ := and2 h
      have e : R.cl.lookup y = some c := of_decide_eq_true h
      obtain ⟨l, m, _⟩ := C.cls y c e
      exact fe_isiC C.k (C.clsOk hfu) ha hs (gl_ok C hf) (hm _ (by decide)) (pe_glob (gl_ok C hy) m (show RelV (.ref (G.C c)) _ from rfl) n1) (.own _) (.inl ⟨c, rfl, l, rfl⟩)
    | ve =>
      obtain ⟨hfu, h⟩ := and2 h
      have e : y = "ValueError" := by simpa using h
      subst e
      exact fe_isiC C.k (C.clsOk hfu) ha hs (gl_ok C hf) (hm _ (by decide)) (pe_bltn (gl_ok C hy) (hm _ (by decide)) boot_ve' (show RelV (.ty "ValueError") _ from rfl) n3 n1) (.ty _) (.inr ⟨rfl, rfl⟩)
    | _ => exact absurd rfl h1
theorem isi2_ok (C : Cok Φ n R X G) {t u : Ty} {y z : Str} {ta : FS → Sto → Out D} {kk : Nat} {q1 q2 q3 : Pos} (hf : glB R.sc "isinstance" = true) (hy : glB R.sc y = true) (hz : glB R.sc z = true) (hn : nmB y = true) (hn2 : nmB z = true) (t1 : tyIs1 t = true) (u1 : tyIs1 u = true) (h : tyB R t y = true) (h2 : tyB R u z = true) (hs : notStar x = true) (ha : PE X x (lift G ta)) :
    PE X (.Call (.Name "isinstance" p) [x, .Tuple [.Name y q1, .Name z q2] kk q3] [] pos) (lift G fun f S => (ta f S).bind fun x S => isiD [t, u] x S) := by
  have hm : ∀ s : Str, s ∈ bNames → X.mg s = none := C.blt
  obtain ⟨n1, n2, n3⟩ := nm_ok hn
  obtain ⟨m1, m2, m3⟩ := nm_ok hn2
  obtain ⟨U, e1, e2, e3⟩ := ty1_ok C t1 h
  obtain ⟨W, w1, w2, w3⟩ := ty1_ok C u1 h2
  exact fe_isi2 C.k e1 w1 ha hs (gl_ok C hf) (hm _ (by decide)) (gl_ok C hy) e2 e3 n3 n1 (gl_ok C hz) w2 w3 m3 m1
theorem lst_shape {c : Nat → List D → Sto → Out D} {es : Es} (f : FS) (S : Sto) (d : D) (S' : Sto) (h : evE c (.lst es) f S = .ok d S') : ∃ ds, d = .lst ds := by
  unfold evE at h
  cases q : evEs c es f S with
  | ok ds S1 =>
    rw [q] at h
    simp only [Out.ok_bind] at h
    split at h
    · cases h; exact ⟨_, rfl⟩
    · cases h
  | exc _ _ _ => rw [q] at h; cases h
  | bad => rw [q] at h; cases h
theorem own_map {N : List Str} (own : List Nat) : (own.map fun i => ((N[i]?).getD ("" : Str), i)).map (·.2) = own := by
  induction own with
  | nil => rfl
  | cons a r ih => rw [List.map_cons, List.map_cons, ih]
end

theorem dnew_ok (C : Cok Φ n R X G) {x : Expr} (h : dnewB x = true) : Jd X G .dnew x (fun _ S => dnewD S) := by
  unfold dnewB at h
  split at h
  · exact Jd.val (fe_dnew C.k) rfl
  · cases h
theorem keys_ok (C : Cok Φ n R X G) {x : Expr} {i j : Nat} (h : keysB R i j x = true) : Jd X G (.keys i j) x (fun f S => keysV f i j S) := by
  unfold keysB at h
  split at h
  · rename_i x0 tx ix scope hc
    obtain ⟨p, rfl⟩ := compOne_eq hc
    split at h
    · rename_i y y2 d e1 e2 e3
      obtain ⟨p1, rfl⟩ := nameOf_eq e1
      obtain ⟨p2, rfl⟩ := nameOf_eq e2
      obtain ⟨p3, rfl⟩ := nameOf_eq e3
      obtain ⟨h0, h1⟩ := and2 h
      obtain ⟨h1, h2⟩ := and2 h1
      obtain ⟨h2, h3⟩ := and2 h2
      obtain ⟨h3, h4⟩ := and2 h3
      obtain ⟨h4, h5⟩ := and2 h4
      obtain ⟨h5, h6⟩ := and2 h5
      obtain ⟨h6, h7⟩ := and2 h6
      have e := of_decide_eq_true h0
      subst e
      have bk := blk_ok h4
      rw [← C.N, ← C.sc] at bk
      obtain ⟨n1, n2, _⟩ := nm_ok h3
      obtain ⟨m1, m2, _⟩ := nm_ok h7
      exact Jd.val (fe_keys C.k C.calm C.nd (by rw [C.N]; exact of_decide_eq_true h1) (vis_ok C h2) n1 n2 bk (fun s H Ca cl fp => tg_ok (C.blk bk s H Ca cl fp) h5) (fun s H Ca cl fp => vis_ok (C.blk bk s H Ca cl fp) h6) m1 m2) rfl
    · cases h
  · cases h
mutual
theorem sE (Φ : Nat → Option Def) (n : Nat) : ∀ (e : E) (x : Expr) (R : Rc) (X : Cx) (G : Gx), Cok Φ n R X G → cE R e x = true → Jd X G e x (evE (callN Φ n) e)
  | .var i, x, R, X, G, C, h => by
    unfold cE at h
    split at h
    · obtain ⟨h1, h2⟩ := and2 h
      obtain ⟨h2, h3⟩ := and2 h2
      obtain ⟨n1, n2, n3⟩ := nm_ok h3
      exact Jd.val (fe_var (by rw [C.N]; exact of_decide_eq_true h1) (vis_ok C h2) n1 n2) rfl
    · cases h
  | .cst d, x, R, X, G, C, h => by
    unfold cE at h
    split at h
    · exact Jd.val (cst_ok h) rfl
    · cases h
  | .glo i, x, R, X, G, C, h => by
    unfold cE at h
    split at h
    · obtain ⟨h1, h2⟩ := and2 h
      obtain ⟨h2, h3⟩ := and2 h2
      obtain ⟨h3, h4⟩ := and2 h3
      obtain ⟨n1, n2, n3⟩ := nm_ok h4
      obtain ⟨d, v, u, e1, e2, e3, e4⟩ := C.glo i (of_decide_eq_true h2)
      have e := eq_of_beq h1
      subst e
      have ev : evE (callN Φ n) (.glo i) = fun _ S => .ok d S := by
        funext f S
        unfold evE
        rw [e1]
      rw [ev]
      exact Jd.val (fe_const (pe_glob (gl_ok C h3) e2 e3 n1) e4) rfl
    · cases h
  | .tup es, x, R, X, G, C, h => by
    unfold cE at h
    split at h
    · exact Jd.val (fe_tup C.k (sEs Φ n es _ R X G C h)) rfl
    · cases h
  | .lst es, x, R, X, G, C, h => by
    unfold cE at h
    split at h
    · exact Jd.val (fe_ofN (lst_shape (es := es)) (fn_lst C.k (sEs Φ n es _ R X G C h))) rfl
    · cases h
  | .newL es, x, R, X, G, C, h => by
    unfold cE at h
    split at h
    · exact Jd.val (fe_new (fn_lst C.k (sEs Φ n es _ R X G C h))) rfl
    · cases h
  | .newC es, x, R, X, G, C, h => by
    unfold cE at h
    split at h
    · obtain ⟨h1, h2⟩ := and2 h
      obtain ⟨h2, h3⟩ := and2 h2
      obtain ⟨h3, h4⟩ := and2 h3
      have e := eq_of_beq h1
      subst e
      exact Jd.val (fe_new (fn_list C.k (gl_ok C h2) (C.blt _ (by decide)) PyProof.Rows.boot_list (sEs Φ n es _ R X G C h4) h3 (by decide) (by decide))) rfl
    · cases h
  | .newP a b, x, R, X, G, C, h => by
    unfold cE at h
    split at h
    · obtain ⟨h1, h2⟩ := and2 h
      obtain ⟨h2, h3⟩ := and2 h2
      exact Jd.val (fe_bin (cat_op C _ h1) catD_ne (sE Φ n a _ R X G C h2).1 (sE Φ n b _ R X G C h3).1) rfl
    · cases h
  | .bin op a b, x, R, X, G, C, h => by
    unfold cE at h
    split at h
    · obtain ⟨h1, h2⟩ := and2 h
      obtain ⟨h2, h3⟩ := and2 h2
      exact Jd.val (fe_bin (bin_op C op _ h1) (binD_ne op) (sE Φ n a _ R X G C h2).1 (sE Φ n b _ R X G C h3).1) rfl
    · cases h
  | .cmp op a b, x, R, X, G, C, h => by
    unfold cE at h
    split at h
    · obtain ⟨h1, h2⟩ := and2 h
      obtain ⟨h2, h3⟩ := and2 h2
      obtain ⟨h3, h4⟩ := and2 h3
      have e := of_decide_eq_true h1
      subst e
      exact ⟨fe_cmp (cmp_op C op) (cmpD_ne op) (sE Φ n a _ R X G C h3).1 (sE Φ n b _ R X G C h4).1 h2, fun _ => ⟨ft_cmp (cmp_op C op) (cmpD_ne op) (sE Φ n a _ R X G C h3).1 (sE Φ n b _ R X G C h4).1 h2, fun z => by cases z⟩⟩
    · cases h
  | .isN a, x, R, X, G, C, h => by
    unfold cE at h
    split at h
    · have r := (sE Φ n a _ R X G C h).1
      exact ⟨fe_isN r, fun _ => ⟨ft_isN r, fun z => by cases z⟩⟩
    · cases h
  | .notN a, x, R, X, G, C, h => by
    unfold cE at h
    split at h
    · have r := (sE Φ n a _ R X G C h).1
      exact ⟨fe_notN r, fun _ => ⟨ft_notN r, fun z => by cases z⟩⟩
    · cases h
  | .isB b a, x, R, X, G, C, h => by
    unfold cE at h
    split at h
    · obtain ⟨h1, h2⟩ := and2 h
      have e := eq_of_beq h1
      subst e
      have r := (sE Φ n a _ R X G C h2).1
      exact ⟨fe_isB r, fun _ => ⟨ft_isB r, fun z => by cases z⟩⟩
    · cases h
  | .notB b a, x, R, X, G, C, h => by
    unfold cE at h
    split at h
    · obtain ⟨h1, h2⟩ := and2 h
      have e := eq_of_beq h1
      subst e
      have r := (sE Φ n a _ R X G C h2).1
      exact ⟨fe_notB r, fun _ => ⟨ft_notB r, fun z => by cases z⟩⟩
    · cases h
  | .and a b, x, R, X, G, C, h => by
    unfold cE at h
    split at h
    · obtain ⟨h1, h2⟩ := and2 h
      have ra := sE Φ n a _ R X G C h1
      have rb := sE Φ n b _ R X G C h2
      refine ⟨fe_and ra.1 (pe_one rb.1), fun ht => ?_⟩
      obtain ⟨t1, t2⟩ := and2 ht
      exact ⟨(fw_and (ra.2 t1).1 (pw_and1 (rb.2 t2).1)).pt, fun _ => fw_and (ra.2 t1).1 (pw_and1 (rb.2 t2).1)⟩
    · obtain ⟨h1, h2⟩ := and2 h
      have ra := sE Φ n a _ R X G C h1
      have rb := sE Φ n b _ R X G C h2
      refine ⟨fe_and ra.1 rb.1, fun ht => ?_⟩
      obtain ⟨t1, t2⟩ := and2 ht
      exact ⟨(fw_and (ra.2 t1).1 ((rb.2 t2).2 rfl)).pt, fun _ => fw_and (ra.2 t1).1 ((rb.2 t2).2 rfl)⟩
    · cases h
  | .or a b, x, R, X, G, C, h => by
    unfold cE at h
    split at h
    · obtain ⟨h1, h2⟩ := and2 h
      have ra := sE Φ n a _ R X G C h1
      have rb := sE Φ n b _ R X G C h2
      refine ⟨fe_or ra.1 (pe_one rb.1), fun ht => ?_⟩
      obtain ⟨t1, t2⟩ := and2 ht
      exact ⟨(fw_or (ra.2 t1).1 (pw_or1 (rb.2 t2).1)).pt, fun _ => fw_or (ra.2 t1).1 (pw_or1 (rb.2 t2).1)⟩
    · obtain ⟨h1, h2⟩ := and2 h
      have ra := sE Φ n a _ R X G C h1
      have rb := sE Φ n b _ R X G C h2
      refine ⟨fe_or ra.1 rb.1, fun ht => ?_⟩
      obtain ⟨t1, t2⟩ := and2 ht
      exact ⟨(fw_or (ra.2 t1).1 ((rb.2 t2).2 rfl)).pt, fun _ => fw_or (ra.2 t1).1 ((rb.2 t2).2 rfl)⟩
    · cases h
  | .not a, x, R, X, G, C, h => by
    unfold cE at h
    split at h
    · have ra := sE Φ n a _ R X G C h
      exact ⟨fe_not ra.1, fun ht => ⟨ft_not (ra.2 ht).1, fun z => by cases z⟩⟩
    · cases h
  | .neg a, x, R, X, G, C, h => by
    unfold cE at h
    split at h
    · exact ⟨fe_neg (sE Φ n a _ R X G C h).1, fun z => by cases z⟩
    · cases h
  | .ite c a b, x, R, X, G, C, h => by
    unfold cE at h
    split at h
    · obtain ⟨h1, h2⟩ := and2 h
      obtain ⟨h2, h3⟩ := and2 h2
      obtain ⟨h3, h4⟩ := and2 h3
      exact ⟨fe_ite ((sE Φ n c _ R X G C h2).2 h1).1 (sE Φ n a _ R X G C h3).1 (sE Φ n b _ R X G C h4).1, fun z => by cases z⟩
    · cases h
  | .sub a i, x, R, X, G, C, h => by
    unfold cE at h
    split at h
    · obtain ⟨h1, h2⟩ := and2 h
      obtain ⟨h2, h3⟩ := and2 h2
      exact Jd.val (fe_sub C.k (by have := units C; omega) (sE Φ n a _ R X G C h2).1 (sE Φ n i _ R X G C h3).1 h1) rfl
    · cases h
  | .slc a lo hi, x, R, X, G, C, h => by
    unfold cE at h
    split at h
    · obtain ⟨h1, h2⟩ := and2 h
      obtain ⟨h2, h3⟩ := and2 h2
      exact Jd.val (fe_slc C.k (sE Φ n a _ R X G C h1).1 (sB Φ n lo _ R X G C h2) (sB Φ n hi _ R X G C h3)) rfl
    · cases h
  | .call g es, x, R, X, G, C, h => by
    unfold cE at h
    split at h
    · obtain ⟨h1, h2⟩ := and2 h
      obtain ⟨h2, h3⟩ := and2 h2
      obtain ⟨h3, h4⟩ := and2 h3
      obtain ⟨h4, h5⟩ := and2 h4
      obtain ⟨n1, n2, n3⟩ := nm_ok h3
      obtain ⟨f, fd, ps, m1, m2, m3, m4⟩ := C.fn _ g (of_decide_eq_true h1)
      exact Jd.val (fe_call C.k m4 C.room C.gd (gl_ok C h2) m1 m2 m3 C.tk (sEs Φ n es _ R X G C h5) h4 n1) rfl
    · cases h
  | .callD g es, x, R, X, G, C, h => by
    unfold cE at h
    split at h
    · obtain ⟨h1, h2⟩ := and2 h
      obtain ⟨h2, h3⟩ := and2 h2
      obtain ⟨h3, h4⟩ := and2 h3
      obtain ⟨h4, h5⟩ := and2 h4
      obtain ⟨n1, n2, n3⟩ := nm_ok h3
      obtain ⟨f, fd, ps, a, dus, m1, m2, m3, m5, m6, m4⟩ := C.fnD _ g (of_decide_eq_true h1)
      exact Jd.val (fe_callD C.k m4 C.room C.gd (gl_ok C h2) m1 m2 m3 m5 m6 C.tk (sEs Φ n es _ R X G C h5) h4 n1) rfl
    · cases h
  | .blt b es, x, R, X, G, C, h => by
    unfold cE at h
    split at h
    · obtain ⟨h1, h2⟩ := and2 h
      obtain ⟨h2, h3⟩ := and2 h2
      obtain ⟨h3, h4⟩ := and2 h3
      obtain ⟨h4, h5⟩ := and2 h4
      exact Jd.val (blt_ok C h1 h2 h3 h4 (sEs Φ n es _ R X G C h5)) rfl
    · cases h
  | .isi a [], x, R, X, G, C, h => by cases h
  | .isi a [t], x, R, X, G, C, h => by
    unfold cE at h
    split at h
    · obtain ⟨h1, h2⟩ := and2 h
      obtain ⟨h2, h3⟩ := and2 h2
      obtain ⟨h3, h4⟩ := and2 h3
      obtain ⟨h4, h5⟩ := and2 h4
      obtain ⟨h5, h6⟩ := and2 h5
      obtain ⟨h6, h7⟩ := and2 h6
      have e := eq_of_beq h1
      subst e
      exact Jd.val (isi_ok C h2 h3 h4 h5 h6 (sE Φ n a _ R X G C h7).1) rfl
    · cases h
  | .isi a [t, u], x, R, X, G, C, h => by
    unfold cE at h
    split at h
    · obtain ⟨h1, h2⟩ := and2 h
      obtain ⟨h2, h3⟩ := and2 h2
      obtain ⟨h3, h4⟩ := and2 h3
      obtain ⟨h4, h5⟩ := and2 h4
      obtain ⟨h5, h6⟩ := and2 h5
      obtain ⟨h6, h7⟩ := and2 h6
      obtain ⟨h7, h8⟩ := and2 h7
      obtain ⟨h8, h9⟩ := and2 h8
      obtain ⟨h9, h10⟩ := and2 h9
      obtain ⟨h10, h11⟩ := and2 h10
      obtain ⟨h11, h12⟩ := and2 h11
      have e := eq_of_beq h1
      subst e
      exact Jd.val (isi2_ok C h2 h3 h4 h5 h6 h7 h8 h9 h10 h11 (sE Φ n a _ R X G C h12).1) rfl
    · cases h
  | .isi a (_ :: _ :: _ :: _), x, R, X, G, C, h => by cases h
  | .mth m o es, x, R, X, G, C, h => by
    unfold cE at h
    split at h
    · obtain ⟨h1, h2⟩ := and2 h
      obtain ⟨h2, h3⟩ := and2 h2
      obtain ⟨h3, h4⟩ := and2 h3
      obtain ⟨h4, h5⟩ := and2 h4
      obtain ⟨h5, h6⟩ := and2 h5
      obtain ⟨h6, h7⟩ := and2 h6
      obtain ⟨h7, h8⟩ := and2 h7
      exact Jd.val (mth_ok C h1 h2 h3 h4 h5 h6 (sE Φ n o _ R X G C h7).1 (sEs Φ n es _ R X G C h8)) rfl
    · cases h
  | .fld _ _, x, R, X, G, C, h => by cases h
  | .comp elt tg it cond own, x, R, X, G, C, h => by
    unfold cE at h
    split at h
    · obtain ⟨h1, h2⟩ := and2 h
      obtain ⟨h2, h3⟩ := and2 h2
      obtain ⟨h3, h4⟩ := and2 h3
      obtain ⟨h4, h5⟩ := and2 h4
      obtain ⟨h5, h6⟩ := and2 h5
      obtain ⟨h6, h7⟩ := and2 h6
      have bk := blk_ok h1
      rw [← C.N, ← C.sc] at bk
      obtain ⟨tt, r1, r2⟩ := sC Φ n cond _ (R.blk _) G h6
      have r := fun p => fe_comp (pos := p) C.k C.calm C.nd (sI Φ n it _ _ R X G C h4) bk (fun s H Ca cl fp => cTg_ok (C.blk bk s H Ca cl fp) h5) (fun s H Ca cl fp => r1 _ (C.blk bk s H Ca cl fp)) r2 (fun s H Ca cl fp => (sE Φ n elt _ _ _ _ (C.blk bk s H Ca cl fp) h7).1) h3 (by rw [own_map]; exact of_decide_eq_true h2)
      simp only [own_map] at r
      exact Jd.val (r _) rfl
    · cases h
  | .never, x, R, X, G, C, h => ⟨fe_never, fun _ => ⟨ft_never, fun _ => fw_never⟩⟩
  | .dnew, x, R, X, G, C, h => dnew_ok C (by unfold cE at h; exact h)
  | .keys i j, x, R, X, G, C, h => keys_ok C (by unfold cE at h; exact h)
  | .disp ks vs, x, R, X, G, C, h => by
    unfold cE at h
    refine Jd.val (disp_ok C (callN Φ n) h) ?_
    unfold dispB at h
    cases x <;> first | rfl | cases h
  | .dget o a d, x, R, X, G, C, h => by
    unfold cE at h
    split at h
    · obtain ⟨h1, h2⟩ := and2 h
      obtain ⟨h2, h3⟩ := and2 h2
      obtain ⟨h3, h4⟩ := and2 h3
      obtain ⟨h4, h5⟩ := and2 h4
      obtain ⟨h5, h6⟩ := and2 h5
      obtain ⟨h6, h7⟩ := and2 h6
      obtain ⟨h7, h8⟩ := and2 h7
      have e := eq_of_beq h1
      subst e
      exact Jd.val (fe_dget C.k (by have := units C; omega) (sE Φ n o _ R X G C h6).1 (sE Φ n a _ R X G C h7).1 (sE Φ n d _ R X G C h8).1 h2 h3 h4 h5) rfl
    · cases h
theorem sEs (Φ : Nat → Option Def) (n : Nat) : ∀ (es : Es) (xs : List Expr) (R : Rc) (X : Cx) (G : Gx), Cok Φ n R X G → cEs R es xs = true → PA X xs (liftA G (evEs (callN Φ n) es))
  | .nil, xs, R, X, G, C, h => by
    unfold cEs at h
    split at h
    · exact fa_nil
    · cases h
  | .cons e r, xs, R, X, G, C, h => by
    unfold cEs at h
    split at h
    · obtain ⟨s1, h1⟩ := and2 h
      obtain ⟨h1, h2⟩ := and2 h1
      exact fa_cons (sE Φ n e _ R X G C h1).1 (sEs Φ n r _ R X G C h2) s1
    · cases h
  | .star e r, xs, R, X, G, C, h => by
    unfold cEs at h
    split at h
    · obtain ⟨h1, h2⟩ := and2 h
      exact fa_star C.k (sE Φ n e _ R X G C h1).1 (sEs Φ n r _ R X G C h2)
    · cases h
theorem sB (Φ : Nat → Option Def) (n : Nat) : ∀ (o : Oe) (x : Option Expr) (R : Rc) (X : Cx) (G : Gx), Cok Φ n R X G → cB R o x = true → PO X x (liftO G (evB (callN Φ n) o))
  | .no, x, R, X, G, C, h => by
    unfold cB at h
    split at h
    · exact fo_none
    · cases h
  | .yes e, x, R, X, G, C, h => by
    unfold cB at h
    split at h
    · exact fo_some (sE Φ n e _ R X G C h).1
    · cases h
theorem sC (Φ : Nat → Option Def) (n : Nat) : ∀ (o : Oe) (xs : List Expr) (R : Rc) (G : Gx), cC R o xs = true → ∃ tt : TT, (∀ X, Cok Φ n R X G.calm → PTs X xs tt) ∧ CondOk G tt (evO (callN Φ n) o)
  | .no, xs, R, G, h => by
    unfold cC at h
    split at h
    · exact ⟨tYes, fun X C => pts_nil, cond_none⟩
    · cases h
  | .yes e, xs, R, G, h => by
    unfold cC at h
    split at h
    · obtain ⟨h1, h2⟩ := and2 h
      exact ⟨_, fun X C => pts_one ((sE Φ n e _ R X G.calm C h2).2 h1).1, cond_some⟩
    · cases h
theorem sI (Φ : Nat → Option Def) (n : Nat) : ∀ (it : It) (x tg : Expr) (R : Rc) (X : Cx) (G : Gx), Cok Φ n R X G → cI R it x = true → PI X tg x (liftI G (evIt (callN Φ n) it))
  | .val e, x, tg, R, X, G, C, h => fi_val C.k (sE Φ n e x R X G C h).1
  | .range1 a, x, tg, R, X, G, C, h => by
    unfold cI at h
    split at h
    · obtain ⟨h1, h2⟩ := and2 h
      obtain ⟨h2, h3⟩ := and2 h2
      obtain ⟨h3, h4⟩ := and2 h3
      have e := eq_of_beq h1
      subst e
      exact fi_range1 (gl_ok C h2) (C.blt _ (by decide)) (sE Φ n a _ R X G C h4).1 h3
    · cases h
  | .range2 a b, x, tg, R, X, G, C, h => by
    unfold cI at h
    split at h
    · obtain ⟨h1, h2⟩ := and2 h
      obtain ⟨h2, h3⟩ := and2 h2
      obtain ⟨h3, h4⟩ := and2 h3
      obtain ⟨h4, h5⟩ := and2 h4
      obtain ⟨h5, h6⟩ := and2 h5
      have e := eq_of_beq h1
      subst e
      exact fi_range2 (gl_ok C h2) (C.blt _ (by decide)) (sE Φ n a _ R X G C h5).1 (sE Φ n b _ R X G C h6).1 h3 h4
    · cases h
end
end SL
set_option Elab.async false
set_option linter.all false
set_option maxRecDepth 100000
set_option maxHeartbeats 4000000
/-! B5: the check of statements, and that it is sound. -/
namespace SL
open PySem PySem.Spec L2
structure CokS (Φ : Nat → Option Def) (n : Nat) (R : Rc) (X : Cx) (G : Gx) : Prop where
  c : Cok Φ n R X G
  kind : X.env.scope.kind = .function
  ps : PassesOwn (model X.prog X.w) X.A X.env X.xe
  ex : X.ex = []
  stk : X.stack = X.env :: X.outer
  frm : X.env.frame = some X.env.locals
def bothTup (t e : Expr) : Bool := match t with
  | .Tuple _ _ _ => match e with
    | .Tuple _ _ _ => true
    | _ => false
  | .List _ _ => match e with
    | .Tuple _ _ _ => true
    | _ => false
  | _ => false
/-- a comprehension stored at once -/
def swB (R : Rc) (t e : Expr) : Bool := match t with
  | .Name y py => match e with
    | .ListComp _ _ scope pos => decide (R.sc.names.lookup y = some .local) && ((py.line == pos.line) && !(scope.names.any fun (n, k) => n == y && (k == .local || k == .cell)))
    | _ => false
  | _ => false
def isLc : Expr → Bool
  | .ListComp _ _ _ _ => true
  | _ => false
section
variable {Φ : Nat → Option Def} {n : Nat} {R : Rc} {X : Cx} {G : Gx}
theorem sw_no {e : Expr} {t : Option Expr} {l : Nat} {env : Env} (h : notComp e = true) : swapsWith e t l env = pure false := by
  cases e <;> first | rfl | cases h
theorem sw_other {e t : Expr} {l : Nat} {env : Env} (hk : env.scope.kind = .function) (hs : env.scope = R.sc) (hl : (notComp e || isLc e) = true) (ht : cTg R (.name 0) t = true ∨ True) (h : swB R t e = false) : swapsWith e (some t) l env = pure false := by
  by_cases hc : notComp e = true
  · exact sw_no hc
  · cases e with
    | ListComp a gs scope pos =>
      cases t with
      | Name y py =>
        have hb : env.blockKind = .function := by unfold Env.blockKind; rw [hk]; rfl
        have ky : env.kindOf y = R.sc.names.lookup y := by unfold Env.kindOf; rw [hs]
        unfold swB at h
        dsimp only at h
        unfold swapsWith
        simp only [hb, ky, Expr.pos]
        show (pure (_ && _ && _ && _) : Sem Bool) = pure false
        congr 1
        rw [← h]
        cases q : R.sc.names.lookup y with
        | none => simp
        | some k => cases k <;> simp [Bool.and_assoc]
      | _ => rfl
    | _ => first | (exact absurd rfl hc) | (simp [notComp, isLc] at hl)
theorem stores_no {t e : Expr} {env : Env} (h : bothTup t e = false) : swappedStores [t] e env = pure none := by
  cases t <;> first | rfl | skip
  all_goals cases e <;> first | rfl | cases h
theorem each_one {R : Rc} {tg : Tg} {t : Expr} {env : Env} (h : cTg R tg t = true) : (assignEach [t] env).map (·.2) = [assign t env] := by
  cases tg <;> cases t <;> first | rfl | cases h
end

def notKeys : E → Bool
  | .keys _ _ => false
  | _ => true
mutual
def cS (R : Rc) : S → Stmt → Bool
  | .asg tg e, st => match st with
    | .Assign [t] x _ => cTg R tg t && (!bothTup t x && ((notComp x || isLc x) && (notKeys e && cE R e x)))
    | _ => false
  | .par is es, st => match st with
    | .Assign [.Tuple ts _ _] (.Tuple vs _ _) _ => !parBad R.sc ts vs && (decide (is.length ≤ 3) && (noStars vs && (cEs R es vs && (match tgNames ts with
      | some xs => tgsB R is xs && (match parW R.sc ts vs with
        | some ns => decide (ns = xs) && (decide is.Nodup && xs.all fun x => decide (R.sc.names.lookup x = some .local))
        | none => true)
      | none => false))))
    | _ => false
  | .never, _ => true
  | .put o i e, st => match st with
    | .Assign [.Subscript ox ix _] x _ => notComp x && (notSlice ix && (cE R e x && (cE R o ox && cE R i ix)))
    | _ => false
  | .aug i op e, st => match st with
    | .AugAssign (.Name y _) o x _ => opB op o && (tgB R i y && cE R e x)
    | _ => false
  | .augS o i op e, st => match st with
    | .AugAssign (.Subscript ox ix _) p x _ => opB op p && (notSlice ix && (cE R o ox && (cE R i ix && cE R e x)))
    | _ => false
  | .exp e, st => match st with
    | .Expr x _ => notComp x && cE R e x
    | _ => false
  | .ret e, st => match st with
    | .Return (some x) _ => cE R e x
    | _ => false
  | .ifs c a b, st => match st with
    | .If x xs ys _ => tst c && (cE R c x && (cSs R a xs && cSs R b ys))
    | _ => false
  | .whl c a, st => match st with
    | .While x xs [] _ => tst c && (cE R c x && cSs R a xs)
    | _ => false
  | .fors tg it a, st => match st with
    | .For t x xs [] _ => cTg R tg t && (notSet x && (cI R it x && cSs R a xs))
    | _ => false
  | .brk, st => match st with
    | .Break _ => true
    | _ => false
  | .cont, st => match st with
    | .Continue _ => true
    | _ => false
  | .raise c es, st => match es with
    | .nil => match st with
      | .Raise (some (.Call (.Name x _) [.Constant (.str _) _ _] [] _)) none _ => decide (R.cl.lookup x = some c) && (decide (c < 13) && (glB R.sc x && nmB x))
      | _ => false
    | _ => false
  | .trys a x e v, st => match st with
    | .Try xs [.ExceptHandler (some (.Name y _)) (some nm) [.Assign [.Name m _] (.Name n2 _) _] _] [] [] _ => R.full && (decide (x = 0) && (decide (R.cl.lookup y = some 0) && (glB R.sc y && (nmB y && (decide (nm = n2) && (decide (R.N[e]? = some nm) && (decide (R.N[v]? = some m) && (decide (R.sc.names.lookup nm = some .local) && (decide (R.sc.names.lookup m = some .local) && (nmB nm && cSs R a xs))))))))))
    | _ => false
def cSs (R : Rc) : Ss → List Stmt → Bool
  | .nil, st => match st with
    | [] => true
    | _ => false
  | .cons s r, st => match st with
    | x :: xs => cS R s x && cSs R r xs
    | _ => false
end
theorem opB_eq {op : Bop} {o : Operator} (h : opB op o = true) : o = opA op := by
  cases op <;> exact of_decide_eq_true (show decide _ = true from h)
theorem CokS.tr {Φ : Nat → Option Def} {n : Nat} {R : Rc} {X : Cx} {G : Gx} (C : CokS Φ n R X G) {W : WX} {pn : List (Addr × Obj)} {xe : Value → Shared → Prop} (tk : Takes (X.tr pn xe) W) (ps : PassesOwn (model X.prog X.w) X.A X.env xe) : CokS Φ n R (X.tr pn xe) ⟨G.K, G.C, W⟩ :=
  ⟨⟨C.c.k, C.c.N, C.c.nd, C.c.sc, C.c.calm, tk, C.c.room, C.c.gd, C.c.fnO, C.c.blt, C.c.glo, C.c.fn, C.c.fnD, fun x c h => let ⟨h1, h2, h3, h4⟩ := C.c.cls x c h; ⟨h1, h2, h3, h4⟩, C.c.clsOk, C.c.mak⟩, C.kind, ps, C.ex, C.stk, C.frm⟩
theorem facts_ve : ExcBaseFacts "ValueError" "ValueError.__new__" "ValueError.__init__" veL := PySem.F.excBase_ValueError
theorem parW_len {sc : Scope} {ts vs : List Expr} {ns : List Str} (h : parW sc ts vs = some ns) : (ts.length = 2 ∨ ts.length = 3) ∧ vs.length = ts.length := by
  unfold parW at h
  split at h
  · cases h
  · rename_i h1
    simp at h1
    refine ⟨?_, h1.2⟩
    by_cases h2 : ts.length = 2
    · exact .inl h2
    · exact .inr (by have := h1.1 h2; exact this)
theorem two_names {ts : List Expr} {xs : List Str} (h : tgNames ts = some xs) (hl : ts.length = 2) : ∃ x p y q, ts = [.Name x p, .Name y q] ∧ xs = [x, y] := by
  match ts, hl with
  | [a, b], _ =>
    cases a <;> try (cases h; done)
    cases b <;> try (cases h; done)
    cases h
    exact ⟨_, _, _, _, rfl, rfl⟩
theorem three_names {ts : List Expr} {xs : List Str} (h : tgNames ts = some xs) (hl : ts.length = 3) : ∃ x p y q z r, ts = [.Name x p, .Name y q, .Name z r] ∧ xs = [x, y, z] := by
  match ts, hl with
  | [a, b, c], _ =>
    cases a <;> try (cases h; done)
    cases b <;> try (cases h; done)
    cases c <;> try (cases h; done)
    cases h
    exact ⟨_, _, _, _, _, _, rfl, rfl⟩
mutual
theorem sS (Φ : Nat → Option Def) (n : Nat) : ∀ (s : S) (st : Stmt) (R : Rc) (X : Cx) (G : Gx), CokS Φ n R X G → cS R s st = true → PS X st (liftS G (evS (callN Φ n) s))
  | .asg tg e, st, R, X, G, C, h => by
    unfold cS at h
    split at h
    · rename_i t x sp
      obtain ⟨h1, h2⟩ := and2 h
      obtain ⟨h2, h3⟩ := and2 h2
      obtain ⟨h3, h4⟩ := and2 h3
      obtain ⟨h5, h4⟩ := and2 h4
      have hb : bothTup t x = false := by simpa using h2
      have r := (sE Φ n e x R X G C.c h4).1
      by_cases hsw : swB R t x = true
      · cases t with
        | Name y py =>
          cases x with
          | ListComp elt gs scope pos =>
            obtain ⟨s1, s2⟩ := and2 hsw
            obtain ⟨s2, s3⟩ := and2 s2
            cases tg with
            | tup is => cases h1
            | name i =>
              have hy := (tg_ok C.c h1).1
              have ly : X.env.scope.names.lookup y = some .local := by rw [C.c.sc]; exact of_decide_eq_true s1
              cases e with
              | comp elt' tg' it cond own =>
                unfold cE at h4
                split at h4
                · rename_i heq
                  injection heq with q1 q2 q3 q4
                  subst q1 q2 q3 q4
                  obtain ⟨h1', h2⟩ := and2 h4
                  obtain ⟨h2, h3⟩ := and2 h2
                  obtain ⟨h3, h4⟩ := and2 h3
                  obtain ⟨h4, h5⟩ := and2 h4
                  obtain ⟨h5, h6⟩ := and2 h5
                  obtain ⟨h6, h7⟩ := and2 h6
                  have bk := blk_ok h1'
                  rw [← C.c.N, ← C.c.sc] at bk
                  obtain ⟨tt, r1, r2⟩ := sC Φ n cond _ (R.blk _) G h6
                  have r := fun pp sp' hsw' => fs_setLc (pos := pp) (spos := sp') (py := py) C.c.k C.c.calm C.c.nd hy ly hsw' (sI Φ n it _ _ R X G C.c h4) bk (fun s H Ca cl fp => cTg_ok (C.c.blk bk s H Ca cl fp) h5) (fun s H Ca cl fp => r1 _ (C.c.blk bk s H Ca cl fp)) r2 (fun s H Ca cl fp => (sE Φ n elt' _ _ _ _ (C.c.blk bk s H Ca cl fp) h7).1) h3 (by rw [own_map]; exact of_decide_eq_true h2)
                  simp only [own_map] at r
                  exact r _ _ (sw_true C.kind ly s2 (by simpa using s3))
                · cases h4
              | never => exact fs_never
              | keys _ _ => cases h5
              | isi a ts => match ts with
                | [] => cases h4
                | [_] => cases h4
                | [_, _] => cases h4
                | _ :: _ :: _ :: _ => cases h4
              | _ => cases h4
          | _ => cases hsw
        | _ => cases hsw
      · have hsw : swB R t x = false := by simpa using hsw
        exact fs_asg C.c.k r (cTg_ok C.c h1) (by unfold swapsWithSole; exact sw_other C.kind C.c.sc h3 (.inr trivial) hsw) (stores_no hb) (each_one h1)
    · cases h
  | .never, st, R, X, G, C, h => fs_never
  | .par is es, st, R, X, G, C, h => by
    unfold cS at h
    split at h
    · rename_i ts kt pt vs kv pv sp
      obtain ⟨h1, h2⟩ := and2 h
      obtain ⟨h2, h3⟩ := and2 h2
      obtain ⟨h3, h4⟩ := and2 h3
      obtain ⟨h4, h5⟩ := and2 h4
      have pb : parBad R.sc ts vs = false := by simpa using h1
      have sto := par_stores (kt := kt) (kv := kv) (pt := pt) (pv := pv) C.c.sc C.kind pb
      have pa := sEs Φ n es _ R X G C.c h4
      have cT : ∀ {xs : List Str}, tgNames ts = some xs → tgsB R is xs = true → cTg R (.tup is) (.Tuple ts kt pt) = true := fun {xs} e q => by
        unfold cTg
        dsimp only
        rw [e]
        exact q
      split at h5
      · rename_i xs hx
        obtain ⟨h6, h7⟩ := and2 h5
        split at h7
        · rename_i ns hw
          obtain ⟨h7, h8'⟩ := and2 h7
          obtain ⟨h8, h9⟩ := and2 h8'
          have e := of_decide_eq_true h7
          subst e
          rw [hw] at sto
          obtain ⟨hl, hv⟩ := parW_len hw
          have nd := of_decide_eq_true h8
          have tg := tgs_ok C.c h6
          rcases hl with hl | hl
          · obtain ⟨x, p, y, q, rfl, rfl⟩ := two_names hx hl
            match vs, hv with
            | [a, b], _ =>
              match is, tg, nd with
              | [i, j], ⟨t1, t2, _⟩, nd =>
                have lx : X.env.scope.names.lookup x = some .local := by rw [C.c.sc]; exact of_decide_eq_true (List.all_eq_true.mp h9 x (by simp))
                have ly : X.env.scope.names.lookup y = some .local := by rw [C.c.sc]; exact of_decide_eq_true (List.all_eq_true.mp h9 y (by simp))
                exact fs_par2 C.c.calm C.c.nd t1.1 t2.1 (by simpa using nd) lx ly pa sto
          · obtain ⟨x, p, y, q, z, r, rfl, rfl⟩ := three_names hx hl
            match vs, hv with
            | [a, b, c], _ =>
              match is, tg, nd with
              | [i, j, l], ⟨t1, t2, t3, _⟩, nd =>
                have lx : X.env.scope.names.lookup x = some .local := by rw [C.c.sc]; exact of_decide_eq_true (List.all_eq_true.mp h9 x (by simp))
                have ly : X.env.scope.names.lookup y = some .local := by rw [C.c.sc]; exact of_decide_eq_true (List.all_eq_true.mp h9 y (by simp))
                have lz : X.env.scope.names.lookup z = some .local := by rw [C.c.sc]; exact of_decide_eq_true (List.all_eq_true.mp h9 z (by simp))
                have nd' : (i ≠ j ∧ i ≠ l) ∧ j ≠ l := by simpa using nd
                exact fs_par3 C.c.calm C.c.nd t1.1 t2.1 t3.1 nd'.1.1 nd'.1.2 nd'.2 lx ly lz pa sto
        · rename_i hw
          rw [hw] at sto
          refine PS.imp (fs_asg (tg := .tup is) C.c.k (fe_tup C.c.k pa) (cTg_ok C.c (cT hx h6)) rfl sto (each_one (cT hx h6))) fun D' σ H z => par_asg (of_decide_eq_true h2) D' σ H z
      · cases h5
    · cases h
  | .put o i e, st, R, X, G, C, h => by
    unfold cS at h
    split at h
    · obtain ⟨h1, h2⟩ := and2 h
      obtain ⟨h2, h3⟩ := and2 h2
      obtain ⟨h3, h4⟩ := and2 h3
      obtain ⟨h4, h5⟩ := and2 h4
      exact fs_put C.c.k (by have := units C.c; omega) (sE Φ n e _ R X G C.c h3).1 (sE Φ n o _ R X G C.c h4).1 (sE Φ n i _ R X G C.c h5).1 (by unfold swapsWithSole; exact sw_no h1) h2 rfl
    · cases h
  | .aug i op e, st, R, X, G, C, h => by
    unfold cS at h
    split at h
    · obtain ⟨h1, h2⟩ := and2 h
      obtain ⟨h2, h3⟩ := and2 h2
      have e0 := opB_eq h1
      subst e0
      obtain ⟨t1, t2, t3⟩ := tg_ok C.c h2
      exact fs_aug C.c.nd t1 t2 t3 (sE Φ n e _ R X G C.c h3).1
    · cases h
  | .augS o i op e, st, R, X, G, C, h => by
    unfold cS at h
    split at h
    · obtain ⟨h1, h2⟩ := and2 h
      obtain ⟨h2, h3⟩ := and2 h2
      obtain ⟨h3, h4⟩ := and2 h3
      obtain ⟨h4, h5⟩ := and2 h4
      have e0 := opB_eq h1
      subst e0
      exact fs_augS C.c.k (by have := units C.c; omega) (sE Φ n o _ R X G C.c h3).1 (sE Φ n i _ R X G C.c h4).1 (sE Φ n e _ R X G C.c h5).1 h2
    · cases h
  | .exp e, st, R, X, G, C, h => by
    unfold cS at h
    split at h
    · obtain ⟨h1, h2⟩ := and2 h
      exact fs_exp (sE Φ n e _ R X G C.c h2).1 (sw_no h1)
    · cases h
  | .ret e, st, R, X, G, C, h => by
    unfold cS at h
    split at h
    · exact fs_ret (sE Φ n e _ R X G C.c h).1
    · cases h
  | .ifs c a b, st, R, X, G, C, h => by
    unfold cS at h
    split at h
    · obtain ⟨h1, h2⟩ := and2 h
      obtain ⟨h2, h3⟩ := and2 h2
      obtain ⟨h3, h4⟩ := and2 h3
      exact fs_if ((sE Φ n c _ R X G C.c h2).2 h1).1 (sSs Φ n a _ R X G C h3) (sSs Φ n b _ R X G C h4)
    · cases h
  | .whl c a, st, R, X, G, C, h => by
    unfold cS at h
    split at h
    · obtain ⟨h1, h2⟩ := and2 h
      obtain ⟨h2, h3⟩ := and2 h2
      exact fs_while C.ps ((sE Φ n c _ R X G C.c h2).2 h1).1 (sSs Φ n a _ R X G C h3)
    · cases h
  | .fors tg it a, st, R, X, G, C, h => by
    unfold cS at h
    split at h
    · obtain ⟨h1, h2⟩ := and2 h
      obtain ⟨h2, h3⟩ := and2 h2
      obtain ⟨h3, h4⟩ := and2 h3
      exact fs_for C.ps C.c.calm (sI Φ n it _ _ R X G C.c h3) (cTg_ok C.c h1) (sSs Φ n a _ R X G C h4) h2
    · cases h
  | .brk, st, R, X, G, C, h => by
    unfold cS at h
    split at h
    · exact fs_brk
    · cases h
  | .cont, st, R, X, G, C, h => by
    unfold cS at h
    split at h
    · exact fs_cont
    · cases h
  | .raise c .nil, st, R, X, G, C, h => by
    unfold cS at h
    dsimp only at h
    split at h
    · obtain ⟨h1, h2⟩ := and2 h
      obtain ⟨h2, h3⟩ := and2 h2
      obtain ⟨h3, h4⟩ := and2 h3
      obtain ⟨c1, c2, c3, c4⟩ := C.c.cls _ c (of_decide_eq_true h1)
      have hc : c < 13 := of_decide_eq_true h2
      have ev : evS (callN Φ n) (.raise c .nil) = fun f S => .exc c [] f S := by
        funext f S
        have : excFs c [] = some [] := by
          unfold excFs
          split <;> first | omega | rfl | simp_all
        unfold evS evEs
        simp only [Out.so_ok, this]
      rw [ev]
      exact fs_raise facts_ve C.c.calm C.c.tk (C.c.mak _ c (of_decide_eq_true h1) hc) c2 c3 c4 (gl_ok C.c h3) (nm_ok h4).1
    · cases h
  | .raise c (.cons _ _), st, R, X, G, C, h => by cases h
  | .raise c (.star _ _), st, R, X, G, C, h => by cases h
  | .trys a x e v, st, R, X, G, C, h => by
    unfold cS at h
    split at h
    · obtain ⟨h0, k0⟩ := and2 h
      obtain ⟨h1, k1⟩ := and2 k0
      obtain ⟨h2, k2⟩ := and2 k1
      obtain ⟨h3, k3⟩ := and2 k2
      obtain ⟨h4, k4⟩ := and2 k3
      obtain ⟨h5, k5⟩ := and2 k4
      obtain ⟨h6, k6⟩ := and2 k5
      obtain ⟨h7, k7⟩ := and2 k6
      obtain ⟨h8, k8⟩ := and2 k7
      obtain ⟨h9, k9⟩ := and2 k8
      obtain ⟨h10, k10⟩ := and2 k9
      have e0 := of_decide_eq_true h1
      subst e0
      have e1 := of_decide_eq_true h5
      subst e1
      obtain ⟨c1, c2, _⟩ := C.c.cls _ 0 (of_decide_eq_true h2)
      obtain ⟨n1, n2, _⟩ := nm_ok h10
      have T := (C.c.clsOk h0).exm
      rw [C.c.k] at T
      exact fs_try C.c.k C.ex C.stk C.frm C.c.nd (by rw [C.c.N]; exact of_decide_eq_true h6) (by rw [C.c.N]; exact of_decide_eq_true h7) (by rw [C.c.sc]; exact of_decide_eq_true h8) (by rw [C.c.sc]; exact of_decide_eq_true h9) n1 n2 ⟨gl_ok C.c h3, (nm_ok h4).1, .inl c2⟩ C.c.tk T
        (fun W pn xe tk ps => sSs Φ n a _ R _ _ (C.tr tk ps) k10)
    · cases h
theorem sSs (Φ : Nat → Option Def) (n : Nat) : ∀ (s : Ss) (st : List Stmt) (R : Rc) (X : Cx) (G : Gx), CokS Φ n R X G → cSs R s st = true → PSs X st (liftS G (evSs (callN Φ n) s))
  | .nil, st, R, X, G, C, h => by
    unfold cSs at h
    split at h
    · exact fs_nil
    · cases h
  | .cons s r, st, R, X, G, C, h => by
    unfold cSs at h
    split at h
    · obtain ⟨h1, h2⟩ := and2 h
      exact fs_cons (sS Φ n s _ R X G C h1) (sSs Φ n r _ R X G C h2)
    · cases h
end
end SL
set_option Elab.async false
set_option linter.all false
set_option maxRecDepth 100000
set_option maxHeartbeats 4000000
/-! B6: defs by their checked bodies; a law's end. -/
namespace SL
open PySem PySem.Spec PyProof.Rows L2

/-! ### what is forgotten at a return -/
mutual
def below (m : Nat) : D → Prop
  | .tup ds => belowL m ds
  | .lst ds => belowL m ds
  | .dct _ ds => belowL m ds
  | .ref k => k < m
  | _ => True
def belowL (m : Nat) : List D → Prop
  | [] => True
  | d :: ds => below m d ∧ belowL m ds
end
section
variable {K : PySem.W.Frag} {C : Nat → Addr} {μ μ' : Mu} {H H' : Hp} {S S' : Sto}
mutual
theorem below_of : ∀ {d : D} {v : V}, Is K μ H d v → below μ.l.length d
  | .non, _, _ => trivial
  | .bl _, _, _ => trivial
  | .int _, _, _ => trivial
  | .str _, _, _ => trivial
  | .scr _, _, _ => trivial
  | .tup ds, v, ⟨a, vs, _, _, l⟩ => belowL_of (ds := ds) l
  | .lst ds, v, ⟨a, vs, _, _, _, l⟩ => belowL_of (ds := ds) l
  | .dct ks ds, v, ⟨a, vs, _, _, _, _, l⟩ => belowL_of (ds := ds) l
  | .ref k, v, ⟨a, _, q⟩ => (List.getElem?_eq_some_iff.mp q).1
theorem belowL_of : ∀ {ds : List D} {vs : List V}, IsL K μ H ds vs → belowL μ.l.length ds
  | [], _, _ => trivial
  | d :: ds, vs, ⟨v, r, _, i, l⟩ => ⟨below_of i, belowL_of l⟩
end
mutual
theorem cut_is (pre : μ.l <+: μ'.l) (hr : μ'.r = μ.r) : ∀ {d : D} {v : V}, below μ.l.length d → Is K μ' H d v → Is K μ H d v
  | .non, _, _, i => i
  | .bl _, _, _, i => i
  | .int _, _, _, i => i
  | .str _, _, _, i => i
  | .scr _, _, _, i => i
  | .tup ds, v, b, ⟨a, vs, e, q, l⟩ => ⟨a, vs, e, q, cutL_is pre hr (ds := ds) b l⟩
  | .lst ds, v, b, ⟨a, vs, e, n, q, l⟩ => ⟨a, vs, e, fun z => n (z.elim (fun y => .inl (pre.subset y)) (fun y => .inr (by rw [hr]; exact y))), q, cutL_is pre hr (ds := ds) b l⟩
  | .dct ks ds, v, b, ⟨a, vs, e, n, q, kk, l⟩ => ⟨a, vs, e, fun z => n (z.elim (fun y => .inl (pre.subset y)) (fun y => .inr (by rw [hr]; exact y))), q, kk, cutL_is pre hr (ds := ds) b l⟩
  | .ref k, v, b, ⟨a, e, q⟩ => ⟨a, e, by
    obtain ⟨t, ht⟩ := pre
    rw [← ht, List.getElem?_append_left (show k < μ.l.length from b)] at q
    exact q⟩
theorem cutL_is (pre : μ.l <+: μ'.l) (hr : μ'.r = μ.r) : ∀ {ds : List D} {vs : List V}, belowL μ.l.length ds → IsL K μ' H ds vs → IsL K μ H ds vs
  | [], _, _, l => l
  | d :: ds, vs, ⟨b1, b2⟩, ⟨v, r, e, i, l⟩ => ⟨v, r, e, cut_is pre hr b1 i, cutL_is pre hr b2 l⟩
end
theorem belowFs_of : ∀ {fs : List (Nat × D)} {fv : List (Str × V)}, FsIs K μ H fs fv → ∀ p ∈ fs, below μ.l.length p.2
  | [], _, _, _, hp => by cases hp
  | (n, d) :: fs, fv, ⟨v, r, _, i, l⟩, p, hp => by
    rcases List.mem_cons.mp hp with rfl | hp
    · exact below_of i
    · exact belowFs_of l p hp
theorem cutFs_is (pre : μ.l <+: μ'.l) (hr : μ'.r = μ.r) : ∀ {fs : List (Nat × D)} {fv : List (Str × V)}, (∀ p ∈ fs, below μ.l.length p.2) → FsIs K μ' H fs fv → FsIs K μ H fs fv
  | [], _, _, l => l
  | (n, d) :: fs, fv, b, ⟨v, r, e, i, l⟩ => ⟨v, r, e, cut_is pre hr (b _ List.mem_cons_self) i, cutFs_is pre hr (fun p hp => b p (List.mem_cons_of_mem _ hp)) l⟩
theorem pure_below (m : Nat) : ∀ (n : Nat) (d : D), pureD n d → below m d
  | 0, _, h => h.elim
  | n + 1, .non, _ => trivial
  | n + 1, .bl _, _ => trivial
  | n + 1, .int _, _ => trivial
  | n + 1, .str _, _ => trivial
  | n + 1, .scr _, h => h.elim
  | n + 1, .ref _, h => h.elim
  | n + 1, .tup ds, h => by
    have go : ∀ ds : List D, (∀ d ∈ ds, pureD n d) → belowL m ds := fun ds => by
      induction ds with
      | nil => intro _; trivial
      | cons d ds ih => exact fun h => ⟨pure_below m n d (h d List.mem_cons_self), ih fun e he => h e (List.mem_cons_of_mem _ he)⟩
    exact go ds h
  | n + 1, .lst ds, h => by
    have go : ∀ ds : List D, (∀ d ∈ ds, pureD n d) → belowL m ds := fun ds => by
      induction ds with
      | nil => intro _; trivial
      | cons d ds ih => exact fun h => ⟨pure_below m n d (h d List.mem_cons_self), ih fun e he => h e (List.mem_cons_of_mem _ he)⟩
    exact go ds h
  | n + 1, .dct _ ds, h => by
    have go : ∀ ds : List D, (∀ d ∈ ds, pureD n d) → belowL m ds := fun ds => by
      induction ds with
      | nil => intro _; trivial
      | cons d ds ih => exact fun h => ⟨pure_below m n d (h d List.mem_cons_self), ih fun e he => h e (List.mem_cons_of_mem _ he)⟩
    exact go ds h
theorem gc_ok {d : D} {v : V} (R : RepS K C μ S H) (x : Ext μ H μ' H') (R' : RepS K C μ' S' H') (i : Is K μ' H' d v) : ∃ μ2, Ext μ H μ2 H' ∧ RepS K C μ2 (gc S d S') H' ∧ Is K μ2 H' d v := by
  unfold gc
  split
  · rename_i hc
    obtain ⟨⟨n, hp⟩, hS⟩ := hc
    have hr : μ'.r = μ.r := x.held
    refine ⟨μ, ⟨List.prefix_refl _, rfl, x.keep, fun b m k => absurd m k⟩, ⟨⟨R.nd, R.len, fun k a o e1 e2 => ?_, fun a ha => ?_⟩, R'.kz⟩, cut_is x.pre hr (pure_below _ n d hp) i⟩
    · have m1 : μ'.l[k]? = some a := by
        obtain ⟨t, ht⟩ := x.pre
        rw [← ht, List.getElem?_append_left (List.getElem?_eq_some_iff.mp e1).1]
        exact e1
      have m2 : S'[k]? = some o := by
        obtain ⟨t, ht⟩ := hS
        rw [← ht, List.getElem?_append_left (List.getElem?_eq_some_iff.mp e2).1]
        exact e2
      have old := R.ob k a o e1 e2
      have new := R'.ob k a o m1 m2
      cases o with
      | lst ds =>
        obtain ⟨vs, q, l⟩ := new
        obtain ⟨_, _, l0⟩ := old
        exact ⟨vs, q, cutL_is x.pre hr (belowL_of l0) l⟩
      | dct ks ds =>
        obtain ⟨vs, q, kk, l⟩ := new
        obtain ⟨_, _, _, l0⟩ := old
        exact ⟨vs, q, kk, cutL_is x.pre hr (belowL_of l0) l⟩
      | ins c fs =>
        obtain ⟨dx, fv, q, l⟩ := new
        obtain ⟨_, _, _, l0⟩ := old
        exact ⟨dx, fv, q, cutFs_is x.pre hr (belowFs_of l0) l⟩
      | exc c fs =>
        obtain ⟨dd, q, l⟩ := new
        obtain ⟨_, _, l0⟩ := old
        refine ⟨dd, q, ?_⟩
        cases fs with
        | nil => exact l
        | cons f fs =>
          obtain ⟨p, fv, e3, n3, h3, l3⟩ := l
          obtain ⟨_, _, _, _, _, l4⟩ := l0
          exact ⟨p, fv, e3, fun z => n3 (z.elim (fun y => .inl (x.pre.subset y)) (fun y => .inr (by rw [hr]; exact y))), h3, cutFs_is x.pre hr (belowFs_of l4) l3⟩
    · obtain ⟨n1, xs, e⟩ := R'.held a (by rw [hr]; exact ha)
      exact ⟨fun m => n1 (x.pre.subset m), xs, e⟩
  · exact ⟨μ', x, R', i⟩
end

/-! ### a def -/
theorem start_sl {K : PySem.W.Frag} {μ : Mu} {H : Hp} {d : Def} {ds : List D} {vs : List V} {N : List Str} (l : IsL K μ H ds vs) (hn : d.ns = N.length) : Sl K μ H (start d ds) (L2.start N vs) := by
  have e := l.length
  refine ⟨?_, fun i x h => ?_⟩
  · unfold start L2.start
    simp only [List.length_append, List.length_map, List.length_replicate]
    rw [e, hn]
  · unfold start at h
    unfold L2.start
    by_cases hi : i < ds.length
    · rw [List.getElem?_append_left (by simpa using hi), List.getElem?_map] at h
      cases q : ds[i]? with
      | none => rw [q] at h; cases h
      | some y =>
        rw [q] at h
        cases h
        obtain ⟨v, e1, i1⟩ := l.get q
        exact ⟨v, by rw [List.getElem?_append_left (by simp; omega), List.getElem?_map, e1]; rfl, i1⟩
    · rw [List.getElem?_append_right (by simpa using hi), List.getElem?_replicate] at h
      split at h <;> cases h
section
variable {Φ : Nat → Option Def} {P : Program} {w : World} {K : PySem.W.Frag} {mg : Str → Option Value} {base : Heap} {C : Nat → Addr} {n g : Nat} {f : Addr} {name qual : Str} {params : Arguments} {body : List Stmt} {scope : Scope} {dV kV doc pm cdv ct oc : Value} {an od : Option Addr} {osl : Array (Option Value)} {N ps : List Str} {d : Def} {R : Rc}
theorem spF_len (hΦ : Φ g = some d) (hp : d.np = ps.length) (vs : List V) (H : Hp) (Q : VK) (E : XK) (h : spF Φ K C (n + 1) g vs H Q E) : vs.length = ps.length := by
  obtain ⟨μ, S, ds, _, l, m⟩ := h
  unfold callN at m
  rw [hΦ] at m
  dsimp only at m
  rw [l.length, ← hp]
  by_cases q : ds.length = d.np ∧ d.np ≤ d.ns
  · exact q.1
  · rw [if_neg q] at m; exact m.elim
theorem fnG_of (lk : K.lookup f = some ⟨oc, od, .func (PySem.W.fnOf name qual params body scope dV kV doc pm an cdv ct), osl⟩) (hcd : PySem.W.codeIn K cdv qual = true) (Sc : FnScope N ps scope) (hΦ : Φ g = some d) (hp : d.np = ps.length) (hs : d.ns = N.length) (ck : cSs R d.body body = true)
    (hC : ∀ (A : Around) (outer : List Env) (s : Shared) (H : Hp) (E : XK), A.guards = some [] → Room n (A.deeper (envOfC qual scope s.heap.objs.size f cdv)) → CokS Φ n R (cxOf (L2.CX P w) P w K mg base N qual scope f cdv A outer s H E) ⟨K, C, fun cls dd _ H' => E cls dd H'⟩) :
    FnG P w K mg base (n + 1) f (PySem.W.fnOf name qual params body scope dV kV doc pm an cdv ct) ps (spF Φ K C (n + 1) g) := by
  constructor
  · exact spF_len hΦ hp
  · intro A outer s H args us vs Q E hg hr e0 hb rv hsp
    have len := spF_len hΦ hp vs H Q E hsp
    have kin : K.In s.heap := e0.mod.kin.keeps fun b o e => (e0.bs b o e).1
    have nolim : s.heap.NoLimit := e0.mod.nolimit.keeps fun b o e => (e0.bs b o e).1
    have kinds : ∀ y ∈ ps.zip us, scope.names.lookup y.1 = some .local ∨ (scope.names.lookup y.1 = some .cell ∧ ((cellsFrom (s.heap.objs.size + 1) scope.names []).lookup y.1).isSome = true) := by
      rintro ⟨y, u⟩ hy
      rcases Sc.par y (List.of_mem_zip hy).1 with z | z
      · exact .inl z
      · exact .inr ⟨z, PySem.W.cellsFrom_some _ _ _ (.inl z)⟩
    refine codeAny_call_function hr.depth (kin _ _ lk) rfl Sc.co Sc.gen rfl (PySem.W.codeRec_of kin hcd) (hb _ _ _ _ (wpAny_newFunctionEnv_cells Sc.kind kinds fun env he t x => ?_))
    subst he
    refine ⟨nolim.keeps x.toInCall.keep, codeAny_func ?_⟩
    have CC := hC A outer s H E hg (hr.deeper _)
    have run := sSs Φ n d.body body R _ _ CC ck
    have I : Inv (cxOf (L2.CX P w) P w K mg base N qual scope f cdv A outer s H E) [] (L2.start N vs) H t := inv_start Sc hr.hd e0 len rv x
    have pre : liftS ⟨K, C, fun cls dd _ H' => E cls dd H'⟩ (evSs (callN Φ n) d.body) { nx := fun _ H' => Q .non H', rt := Q } (L2.start N vs) H := by
      obtain ⟨μ, S, ds, RR, l, m⟩ := hsp
      refine ⟨μ, start d ds, S, RR, start_sl l hs, ?_⟩
      unfold callN at m
      rw [hΦ] at m
      dsimp only at m
      by_cases q : ds.length = d.np ∧ d.np ≤ d.ns
      · rw [if_pos q] at m
        cases ee : evSs (callN Φ n) d.body (start d ds) S with
        | ret r S' =>
          rw [ee] at m
          intro v H' μ' x1 R1 i1
          obtain ⟨μ2, x2, R2, i2⟩ := gc_ok RR x1 R1 i1
          exact m v H' μ2 x2 R2 i2
        | nx f' S' =>
          rw [ee] at m
          intro σ' H' μ' x1 R1 L1
          obtain ⟨μ2, x2, R2, i2⟩ := gc_ok (d := .non) (v := .non) RR x1 R1 rfl
          exact m .non H' μ2 x2 R2 i2
        | exc c fs f' S' =>
          rw [ee] at m
          exact fun σ' H' μ' dd x1 R1 L1 xi => m H' μ' dd x1 R1 xi
        | brk f' S' => rw [ee] at m; exact m.elim
        | ct f' S' => rw [ee] at m; exact m.elim
        | bad => rw [ee] at m; exact m.elim
      · rw [if_neg q] at m; exact m.elim
    refine wpAny_mono (run.run [] t (L2.start N vs) H _ I pre) (fun fl t' z => ?_) fun e t' z => z
    cases fl with
    | ret u =>
      obtain ⟨v, σ', H', J, r1, q⟩ := z
      exact ⟨v, H', J.os, J.bare, J.base, J.hok, r1, q⟩
    | next =>
      obtain ⟨σ', H', J, q⟩ := z
      exact ⟨V.non, H', J.os, J.bare, J.base, J.hok, rfl, q⟩
    | brk =>
      obtain ⟨_, _, _, q⟩ := z
      exact q.elim
    | cont =>
      obtain ⟨_, _, _, q⟩ := z
      exact q.elim
end
end SL
set_option Elab.async false
set_option linter.all false
set_option maxRecDepth 100000
set_option maxHeartbeats 4000000
/-! B7: a law's end over the layer. -/
namespace SL
open PySem PySem.Spec PyProof.Rows L2
section
variable {P : Program} {w : World} {K : PySem.W.Frag} {mg mb : Str → Option Value} {k : Nat} {fa a : Addr} {fd : FuncData} {x : Str} {sp : Sp} {s₁ : Shared} {vs : List Value} {ns : List Int}
/-- the abstract heap that tracks nothing, or the script alone -/
def scriptH (K : PySem.W.Frag) (a : Addr) (o : Obj) (ns : List Int) : Hp := fun b => if b = a ∧ (K.lookup a).isNone then some (.frz o (.lst (ns.map V.int))) else none
theorem law_end (KX : K.In s₁.heap) (hns : s₁.heap.Ns mainGlobals mg) (hb : s₁.heap.Ns builtinsNs mb) (hbb : ∀ x : Str, x ≠ "__name__" → mb x = bootBuiltins x) (hlim : s₁.heap.NoLimit) (hg : s₁.gens = #[])
    (ha : s₁.heap.get? a = some { cls := .type "list", data := .seq vs.toArray }) (hi : IntsAre vs ns) (hl : ns.length ≤ sizeLine) (hr : Room k callerA)
    (F : ∀ bs : Heap, K.In bs → bs.Ns mainGlobals mg → FnG P w K mg bs k fa fd [x] sp) (hbind : ∀ (s : Shared) (u : Value), BindsTo s fd ⟨[u], []⟩ [(x, u)])
    (hsp : ∀ H : Hp, KZ K H → SqF K H a (ns.map V.int) → sp [.ref a] H (fun v _ => v = .bl true) fun _ _ _ => False) :
    codeAny (model P w) callerA (.call (.ref fa) ⟨[.ref a], []⟩) (fun r s' => r = .ok (.ret (.bool true)) ∧ OldK s₁.heap s'.heap ∧ s'.os = s₁.os ∧ AllBare s'.gens) s₁ := by
  have rv := vals_ints hi
  have lv := hi.length
  let o1 : Obj := { cls := .type "list", data := .seq vs.toArray }
  let H : Hp := scriptH K a o1 ns
  have tracked : ∀ b u, H b = some u → b = a ∧ K.lookup a = none ∧ u = .frz o1 (.lst (ns.map V.int)) := fun b u q => by
    by_cases hc : b = a ∧ (K.lookup a).isNone = true
    · have q2 : H b = some (.frz o1 (.lst (ns.map V.int))) := if_pos hc
      rw [q2] at q
      cases q
      refine ⟨hc.1, ?_, rfl⟩
      cases z : K.lookup a with
      | none => rfl
      | some _ => have z2 := hc.2; rw [z] at z2; cases z2
    · have q2 : H b = none := if_neg hc
      rw [q2] at q; cases q
  have hok : HOk P w H s₁.heap := fun b u q => by
    obtain ⟨e1, _, e3⟩ := tracked b u q
    subst e1 e3
    exact ⟨ha, by rw [List.length_map]; exact hl, vs, _, rv, ha⟩
  have put : ∀ {b : Addr} {o : Obj}, s₁.heap.get? b = some o → H b = none → (hidT s₁.heap H).get? b = some o := fun q m => hidT_get q m
  have spaces : ∀ {b : Addr} {m : Str → Option Value}, s₁.heap.Ns b m → (hidT s₁.heap H).Ns b m := fun {b m} ⟨o, es, ep, q, dd, r⟩ => by
    refine ⟨o, es, ep, put q ?_, dd, r⟩
    cases z : H b with
    | none => rfl
    | some u =>
      obtain ⟨e1, _⟩ := tracked b u z
      subst e1
      rw [ha] at q
      cases q
      cases (show Data.seq vs.toArray _ = Data.dict es ep from dd)
  have kb : K.In (hidT s₁.heap H) := fun b o q => by
    refine put (KX b o q) ?_
    cases z : H b with
    | none => rfl
    | some u =>
      obtain ⟨e1, e2, _⟩ := tracked b u z
      subst e1
      rw [q] at e2; cases e2
  have kz : KZ K H := by
    refine ⟨fun b o q => ?_, fun b xs q => ?_, fun b xs q => ?_, fun b o xs q => ?_, fun b o xs q => ?_, fun b kvs q => ?_⟩
    · cases z : H b with
      | none => rfl
      | some u =>
        obtain ⟨e1, e2, _⟩ := tracked b u z
        subst e1
        rw [q] at e2; cases e2
    · cases (tracked b _ q).2.2
    · cases (tracked b _ q).2.2
    · have e := (tracked b _ q).2.2
      cases e
      rw [List.length_map]; exact hl
    · have e := (tracked b _ q).2.2
      cases e
    · cases (tracked b _ q).2.2
  have sq : SqF K H a (ns.map V.int) := by
    cases z : K.lookup a with
    | none => exact .inl ⟨o1, if_pos ⟨rfl, by rw [z]; rfl⟩⟩
    | some o =>
      have e := KX a o z
      rw [ha] at e
      cases e
      exact .inr ⟨_, vs.toArray, _, z, rfl, rfl, rfl, by rw [List.size_toArray, lv]; exact hl, by simpa using rv⟩
  have md : Mod K mg (hidT s₁.heap H) := ⟨kb, spaces hns, ⟨mb, spaces hb, hbb⟩, let ⟨mc, h1, h2⟩ := hlim; ⟨mc, spaces h1, h2⟩⟩
  have env0 : Env0 P w K mg (hidT s₁.heap H) callerA [] s₁ H := ⟨rfl, md, fun b o q => of_hidT q, Nat.le_of_eq (hidT_size _ _), trivial, fun b z => absurd z (List.not_mem_nil), hok, .of_eq hg⟩
  refine codeAny_mono ((F _ kb (spaces hns)).run callerA [] s₁ H ⟨[.ref a], []⟩ [.ref a] [.ref a] _ _ rfl hr env0 (hbind s₁ (.ref a)) (.cons rfl .nil) (hsp H kz sq)) fun r t h => ?_
  cases r with
  | error e =>
    obtain ⟨_, _, _, _, _, _, _, _, _, _, _, _, z⟩ := h
    exact z.elim
  | ok fl =>
    cases fl with
    | ret u =>
      obtain ⟨v, H', os, bare, un, hok', r', q⟩ := h
      cases (show v = .bl true from q)
      obtain rfl : u = Value.bool true := r'
      refine ⟨rfl, OldK.of_keep fun b o e => ?_, os, bare⟩
      cases z : H b with
      | none => exact un.keep b o e z (fun y => by cases y) (fun y => by cases y)
      | some u =>
        obtain ⟨_, _, e3⟩ := tracked b u z
        subst e3
        obtain ⟨e1, _⟩ := hok b _ z
        obtain ⟨e2, _⟩ := hok' b _ (un.frzs b o1 _ z)
        rw [e] at e1; cases e1
        exact e2
    | next => exact h.elim
    | brk => exact h.elim
    | cont => exact h.elim
end
/-- a law over a head by facts -/
theorem walk_law {l : PySem.W.OpenLaw} {n k : Nat} {q : Program} {loose : List Str} {XP : (Str → Option Value) → Heap → Prop} {YP : World → Heap → Prop} {d : DefRec} {x : Str} (hn : l.most = some n) (hn2 : n ≤ sizeLine) (hdf : d.params.defaults = []) (hr : Room k callerA)
    (F : ∀ (w : World) (mg : Str → Option Value) (fa : Addr) (h : Heap), YP w h → h.Ns mainGlobals mg → mg d.name = some (.ref fa) → ∃ (K : PySem.W.Frag) (fd : FuncData) (sp : Sp), K.In h ∧ (∀ (s : Shared) (u : Value), BindsTo s fd ⟨[u], []⟩ [(x, u)]) ∧
      (∀ (H : Hp) (a : Addr) (ns : List Int), ns.length ≤ n → KZ K H → SqF K H a (ns.map V.int) → sp [.ref a] H (fun v _ => v = .bl true) fun _ _ _ => False) ∧ ∀ bs : Heap, K.In bs → bs.Ns mainGlobals mg → FnG l.prog w K mg bs k fa fd [x] sp) :
    PySem.W.WalkO q loose XP YP l.row.toRowW d [] (fun f vs => PySem.call f vs) := by
  refine Att.attach_call hn hdf fun w _ s mg mb fa _ _ _ _ a vs ns GG Y _ _ _ hmg hobj hints hlen hg => ?_
  obtain ⟨K, fd, sp, kx, bd, hsp, hF⟩ := F w mg fa _ Y GG.T.g hmg
  exact law_end kx GG.T.g GG.T.b GG.T.builtins GG.T.nolimit hg hobj hints (Nat.le_trans hlen hn2) hr hF bd fun H kz hS => hsp H a ns hlen kz hS
end SL
set_option Elab.async false
set_option linter.all false
set_option maxRecDepth 100000
set_option maxHeartbeats 4000000
/-! B8: a program of checked defs over a head by facts. -/
namespace SL
open PySem PySem.Spec PyProof.Rows L2
/-- a def of the text: its name, its statement, its number, its slots, its parameters, its meaning -/
structure Fd where
  nm : Str
  st : Stmt
  id : Nat
  N : List Str
  ps : List Str
  d : Def
  df : Bool := false
def clsName : Nat → Str
  | 1 => "NoPattern"
  | 2 => "NoWord"
  | 3 => "NoLength"
  | 4 => "NoTold"
  | 5 => "NoSigns"
  | 6 => "NoLines"
  | 7 => "NoLine"
  | 8 => "NoNumber"
  | 9 => "Unlike"
  | 10 => "NoRows"
  | 11 => "ManySolve"
  | 12 => "OneSolves"
  | 13 => "Parted"
  | 14 => "NoText"
  | _ => "LinesError"
def Cof (K : PySem.W.Frag) (y : Nat) : Addr := He.ga K (clsName y)
def clTab (cl : List Nat) : List (Str × Nat) := cl.map fun y => (clsName y, y)
def tyNames : List String := ["NoneType", "bool", "int", "str", "tuple", "list"]
def excCB (K : PySem.W.Frag) (D : Addr) : Bool := decide (PySem.W.findIn K (.ref D) "__getattribute__" = some (some (.builtin "BaseException.__getattribute__"))) && (decide (PySem.W.findIn K (.ref D) "__getattr__" = some none) && (decide (PySem.W.subIn K (.ref D) (.type "BaseException") = some true) && (PySem.W.hasDictIn K D && (decide (PySem.W.findIn K (.ref D) "__class__" = some (some (.builtin "object.__class__"))) &&
  (decide (PySem.W.specialIn K (.builtin "object.__class__") "__get__" = some (some (.builtin "getset_descriptor.__get__"))) && (decide (PySem.W.takesIn K (.builtin "object.__class__") = some true) && decide (PySem.W.mroIn K D (.type "object") = some true)))))))
def oneB (cl : List Nat) (K : PySem.W.Frag) (y : Nat) : Bool := decide (PySem.W.nsIn K mainGlobals (clsName y) = some (some (.ref (Cof K y)))) && (PySem.W.keepIn K (.ref (Cof K y)) && (decide (PySem.W.typeIn K (.ref (Cof K y)) = some (.type "type")) && (excCB K (Cof K y) && (cl.all (fun c => decide (PySem.W.kitOne K (.ref (Cof K y)) (.ref (Cof K c)) = some (under y c))) &&
  (decide (PySem.W.kitOne K (.ref (Cof K y)) (.type "ValueError") = some true) && (tyNames.all (fun T => decide (PySem.W.kitOne K (.type T) (.ref (Cof K y)) = some false)) && (decide (PySem.W.exmOne K (.ref (Cof K y)) (.ref (Cof K 0)) = some true) && (if y < 13 then PySem.W.excIn K (Cof K y) veL "ValueError.__new__" else true))))))))
def signsB (K : PySem.W.Frag) : Bool := match PySem.W.nsIn K mainGlobals "SIGNS" with
  | some (some (.str y _)) => decide (y = "abcdefgh")
  | _ => false
def gloB (K : PySem.W.Frag) : Nat → Bool
  | 0 => signsB K
  | 1 => decide (PySem.W.nsIn K mainGlobals "NONE" = some (some (.ref (He.ga K "NONE")))) && He.tupB K "NONE" [.str "none"]
  | 2 => decide (PySem.W.nsIn K mainGlobals "EMPTY" = some (some (.ref (He.ga K "EMPTY")))) && He.tupB K "EMPTY" [.str "empty"]
  | _ => false
/-- the whole look at the module -/
def exB (gl cl : List Nat) (K : PySem.W.Frag) : Bool := cl.all (fun y => decide (y < 15) && oneB cl K y) && (tyNames.all (fun T => decide (PySem.W.kitOne K (.type T) (.type "ValueError") = some false)) && (gl.all (gloB K) && bNames.all fun x => decide (PySem.W.nsIn K mainGlobals x = some none)))
section
variable {K : PySem.W.Frag} {h : Heap} {mg : Str → Option Value} {gl cl : List Nat}
theorem exB_one (e : exB gl cl K = true) {y : Nat} (hy : y ∈ cl) : y < 15 ∧ oneB cl K y = true := by
  obtain ⟨h1, h2⟩ := and2 (List.all_eq_true.mp (and2 e).1 y hy)
  exact ⟨of_decide_eq_true h1, h2⟩
theorem exB_cls (e : exB gl (List.range 15) K = true) : ClsOk K (Cof K) := by
  have one := fun {y : Nat} (hy : y < 15) => (exB_one e (List.mem_range.mpr hy)).2
  refine ⟨fun y hy => ?_, fun y c hy hc => ?_, fun y hy => ?_, fun c hc T hT => ?_, fun T hT => ?_, fun y => ?_⟩
  · obtain ⟨_, k1⟩ := and2 (one hy)
    obtain ⟨_, k2⟩ := and2 k1
    obtain ⟨_, k3⟩ := and2 k2
    obtain ⟨q, _⟩ := and2 k3
    unfold excCB at q
    obtain ⟨q1, r1⟩ := and2 q
    obtain ⟨q2, r2⟩ := and2 r1
    obtain ⟨q3, r3⟩ := and2 r2
    obtain ⟨q4, r4⟩ := and2 r3
    obtain ⟨q5, r5⟩ := and2 r4
    obtain ⟨q6, r6⟩ := and2 r5
    obtain ⟨q7, q8⟩ := and2 r6
    exact ⟨of_decide_eq_true q1, of_decide_eq_true q2, of_decide_eq_true q3, q4, of_decide_eq_true q5, of_decide_eq_true q6, of_decide_eq_true q7, of_decide_eq_true q8⟩
  · obtain ⟨_, k1⟩ := and2 (one hy)
    obtain ⟨_, k2⟩ := and2 k1
    obtain ⟨_, k3⟩ := and2 k2
    obtain ⟨_, k4⟩ := and2 k3
    obtain ⟨q, _⟩ := and2 k4
    exact of_decide_eq_true (List.all_eq_true.mp q c (List.mem_range.mpr hc))
  · obtain ⟨_, k1⟩ := and2 (one hy)
    obtain ⟨_, k2⟩ := and2 k1
    obtain ⟨_, k3⟩ := and2 k2
    obtain ⟨_, k4⟩ := and2 k3
    obtain ⟨_, k5⟩ := and2 k4
    obtain ⟨q, _⟩ := and2 k5
    exact of_decide_eq_true q
  · obtain ⟨_, k1⟩ := and2 (one hc)
    obtain ⟨_, k2⟩ := and2 k1
    obtain ⟨_, k3⟩ := and2 k2
    obtain ⟨_, k4⟩ := and2 k3
    obtain ⟨_, k5⟩ := and2 k4
    obtain ⟨_, k6⟩ := and2 k5
    obtain ⟨q, _⟩ := and2 k6
    exact of_decide_eq_true (List.all_eq_true.mp q T hT)
  · obtain ⟨_, k1⟩ := and2 e
    obtain ⟨q, _⟩ := and2 k1
    exact of_decide_eq_true (List.all_eq_true.mp q T hT)
  · have key : ∀ {y : Nat}, y < 15 → PySem.W.exmOne K (.ref (Cof K y)) (.ref (Cof K 0)) = some true := fun {y} hy => by
      obtain ⟨_, k1⟩ := and2 (one hy)
      obtain ⟨_, k2⟩ := and2 k1
      obtain ⟨_, k3⟩ := and2 k2
      obtain ⟨_, k4⟩ := and2 k3
      obtain ⟨_, k5⟩ := and2 k4
      obtain ⟨_, k6⟩ := and2 k5
      obtain ⟨_, k7⟩ := and2 k6
      obtain ⟨q, _⟩ := and2 k7
      exact of_decide_eq_true q
    by_cases hy : y < 15
    · exact key hy
    · have e0 : Cof K y = Cof K 0 := by
        unfold Cof
        have : clsName y = clsName 0 := by
          unfold clsName
          split <;> first | omega | rfl
        rw [this]
      rw [e0]
      exact key (by omega)
theorem clTab_ok {x : Str} {c : Nat} (h : (clTab cl).lookup x = some c) : c ∈ cl ∧ x = clsName c := by
  have m := mem_of_lookup h
  obtain ⟨y, hy, e⟩ := List.mem_map.mp m
  cases e
  exact ⟨hy, rfl⟩
theorem exB_names (e : exB gl cl K = true) (X : K.In h) (G : h.Ns mainGlobals mg) {x : Str} {c : Nat} (hl : (clTab cl).lookup x = some c) : c < 15 ∧ mg x = some (.ref (Cof K c)) ∧ PySem.W.keepIn K (.ref (Cof K c)) = true ∧ (PySem.W.subIn K (.ref (Cof K c)) (.type "BaseException") = some true ∧ PySem.W.typeIn K (.ref (Cof K c)) = some (.type "type")) := by
  obtain ⟨hc', rfl⟩ := clTab_ok hl
  obtain ⟨hc, one⟩ := exB_one e hc'
  obtain ⟨q1, k1⟩ := and2 one
  obtain ⟨q2, k2⟩ := and2 k1
  obtain ⟨q3, _⟩ := and2 k2
  obtain ⟨q4, _⟩ := and2 (and2 k2).2
  unfold excCB at q4
  obtain ⟨_, r1⟩ := and2 q4
  obtain ⟨_, r2⟩ := and2 r1
  obtain ⟨q5, _⟩ := and2 r2
  exact ⟨hc, PySem.W.mg_of X G (of_decide_eq_true q1), q2, of_decide_eq_true q5, of_decide_eq_true q3⟩
theorem exB_mak (e : exB gl cl K = true) (x : Str) (c : Nat) (hl : (clTab cl).lookup x = some c) (hc : c < 13) : PySem.W.excIn K (Cof K c) veL "ValueError.__new__" = true := by
  obtain ⟨_, k1⟩ := and2 (exB_one e (clTab_ok hl).1).2
  obtain ⟨_, k2⟩ := and2 k1
  obtain ⟨_, k3⟩ := and2 k2
  obtain ⟨_, k4⟩ := and2 k3
  obtain ⟨_, k5⟩ := and2 k4
  obtain ⟨_, k6⟩ := and2 k5
  obtain ⟨_, k7⟩ := and2 k6
  obtain ⟨_, q⟩ := and2 k7
  rwa [if_pos hc] at q
theorem exB_free (e : exB gl cl K = true) (X : K.In h) (G : h.Ns mainGlobals mg) : ∀ x ∈ bNames, mg x = none := fun x hx => by
  obtain ⟨_, k1⟩ := and2 e
  obtain ⟨_, k2⟩ := and2 k1
  obtain ⟨_, q⟩ := and2 k2
  exact PySem.W.mg_none_of X G (of_decide_eq_true (List.all_eq_true.mp q x hx))
theorem exB_glo (e : exB gl cl K = true) (X : K.In h) (G : h.Ns mainGlobals mg) : ∀ i ∈ gl, ∃ d v u, gloD i = some d ∧ mg (gname i) = some u ∧ RelV v u ∧ ∀ μ H, Is K μ H d v := fun i hi => by
  obtain ⟨_, k1⟩ := and2 e
  obtain ⟨_, k2⟩ := and2 k1
  obtain ⟨q0, _⟩ := and2 k2
  have q := List.all_eq_true.mp q0 i hi
  match i, q with
  | 0, q =>
    have q : signsB K = true := q
    unfold signsB at q
    split at q
    · rename_i y t hn
      have e1 := of_decide_eq_true q
      subst e1
      exact ⟨_, .str "abcdefgh", _, rfl, PySem.W.mg_of X G hn, ⟨t, rfl⟩, fun _ _ => by show V.str _ = V.str _; congr 1⟩
    · cases q
  | 1, q =>
    obtain ⟨q1, q2⟩ := and2 q
    exact ⟨_, .ref (He.ga K "NONE"), _, rfl, PySem.W.mg_of X G (of_decide_eq_true q1), rfl, fun μ H => ⟨_, _, rfl, He.tupB_ok q2 H, ⟨_, [], rfl, by show V.str _ = V.str _; congr 1, rfl⟩⟩⟩
  | 2, q =>
    obtain ⟨q1, q2⟩ := and2 q
    exact ⟨_, .ref (He.ga K "EMPTY"), _, rfl, PySem.W.mg_of X G (of_decide_eq_true q1), rfl, fun μ H => ⟨_, _, rfl, He.tupB_ok q2 H, ⟨_, [], rfl, by show V.str _ = V.str _; congr 1, rfl⟩⟩⟩
  | n + 3, q => cases q
end

/-! ### the program -/
def AllF (p : Fd → Prop) : List Fd → Prop
  | [] => True
  | F :: r => p F ∧ AllF p r
theorem AllF.mem {p : Fd → Prop} : ∀ {l : List Fd}, AllF p l → ∀ F ∈ l, p F
  | F :: r, ⟨h, hr⟩, G, hG => by
    rcases List.mem_cons.mp hG with rfl | hG
    · exact h
    · exact AllF.mem hr G hG
def emptyB (K : PySem.W.Frag) (a : Addr) : Bool := match K.lookup a with
  | some ⟨c, _, .seq its _, _⟩ => decide (c = .type "tuple") && its.toList.isEmpty
  | _ => false
theorem emptyB_ok {K : PySem.W.Frag} {a : Addr} (h : emptyB K a = true) (H : Hp) : SqT K H a [] := by
  unfold emptyB at h
  cases e : K.lookup a with
  | none => rw [e] at h; cases h
  | some o =>
    rw [e] at h
    obtain ⟨c, d, dt, sl⟩ := o
    cases dt with
    | seq its n =>
      dsimp only at h
      obtain ⟨h1, h2⟩ := and2 h
      have e2 : its.toList = [] := by simpa using h2
      exact .inr ⟨_, its, n, e, of_decide_eq_true h1, rfl, by rw [← Array.length_toList, e2]; exact Nat.zero_le _, by rw [e2]; exact .nil⟩
    | _ => cases h
def dfl0 (F : Fd) (K : PySem.W.Frag) : Addr := He.dflAt (F.nm, none) 0 K
def dfV (F : Fd) (K : PySem.W.Frag) : List V := if F.df then [.ref (dfl0 F K)] else []
def BindD (F : Fd) : Prop := 1 ≤ F.ps.length ∧ (∀ (T : Addr) (kV doc pm : Value) (an : Option Addr) (cdv ct : Value) (us its : List Value), us.length + 1 = F.ps.length → its.length = 1 → ∃ k, bindArgs (PySem.W.fnOf F.nm F.nm (defArgs F.st) (defBody F.st) (defScope F.st) (.ref T) kV doc pm an cdv ct) ⟨us, []⟩ = seqItems? (.ref T) >>= k ∧ k (some its.toArray) = pure (F.ps.zip (us ++ its.drop 0))) ∧
  ∀ (T : Addr) (kV doc pm : Value) (an : Option Addr) (cdv ct : Value) (us its : List Value), us.length = F.ps.length → its.length = 1 → ∃ k, bindArgs (PySem.W.fnOf F.nm F.nm (defArgs F.st) (defBody F.st) (defScope F.st) (.ref T) kV doc pm an cdv ct) ⟨us, []⟩ = seqItems? (.ref T) >>= k ∧ k (some its.toArray) = pure (F.ps.zip (us ++ its.drop 1))
def BindN (F : Fd) : Prop := ∀ (kV doc pm : Value) (an : Option Addr) (cdv ct : Value) (us : List Value), us.length = F.ps.length → bindArgs (PySem.W.fnOf F.nm F.nm (defArgs F.st) (defBody F.st) (defScope F.st) .none kV doc pm an cdv ct) ⟨us, []⟩ = pure (F.ps.zip us)
def BindP (F : Fd) : Prop := match F.df with
  | true => BindD F
  | false => BindN F
def fnDT (defs : List Fd) : List (Str × Nat) := (defs.filter (·.df)).map fun F => (F.nm, F.id)
def fnT (defs : List Fd) : List (Str × Nat) := defs.map fun F => (F.nm, F.id)
def rcF (defs : List Fd) (gl cl : List Nat) (F : Fd) : Rc := ⟨F.N, defScope F.st, [], true, fnT defs, clTab cl, gl, decide (cl = List.range 15), fnDT defs⟩
def scopeB (N ps : List Str) (sc : Scope) : Bool := decide (sc.kind = .function) && (!sc.isCoroutine && (!sc.isGenerator && (decide N.Nodup && (decide (N.take ps.length = ps) && (ps.all (fun x => decide (sc.names.lookup x = some .local) || decide (sc.names.lookup x = some .cell)) && sc.names.all fun y => decide (y.2 ≠ .free))))))
theorem scope_ok {N ps : List Str} {sc : Scope} (h : scopeB N ps sc = true) : FnScope N ps sc := by
  unfold scopeB at h
  obtain ⟨h1, k1⟩ := and2 h
  obtain ⟨h2, k2⟩ := and2 k1
  obtain ⟨h3, k3⟩ := and2 k2
  obtain ⟨h4, k4⟩ := and2 k3
  obtain ⟨h5, k5⟩ := and2 k4
  obtain ⟨h6, h7⟩ := and2 k5
  refine ⟨of_decide_eq_true h1, by simpa using h2, by simpa using h3, of_decide_eq_true h4, of_decide_eq_true h5, fun x hx => ?_, fun y hy => ?_⟩
  · simpa using List.all_eq_true.mp h6 x hx
  · exact of_decide_eq_true (List.all_eq_true.mp h7 y hy)
def defB (defs : List Fd) (gl cl : List Nat) (F : Fd) : Bool := scopeB F.N F.ps (defScope F.st) && (decide (F.d.np = F.ps.length) && (decide (F.d.ns = F.N.length) && cSs (rcF defs gl cl F) F.d.body (defBody F.st)))
def PhiOf (defs : List Fd) (g : Nat) : Option Def := (defs.find? fun F => F.id == g).map (·.d)
theorem fnT_ok {defs : List Fd} {x : Str} {g : Nat} (h : (fnT defs).lookup x = some g) : ∃ F ∈ defs, F.nm = x ∧ F.id = g := by
  obtain ⟨F, hF, e⟩ := List.mem_map.mp (mem_of_lookup h)
  cases e
  exact ⟨F, hF, rfl, rfl⟩
/-- what the head told of a program -/
structure Told (defs : List Fd) (gl cl : List Nat) (K : PySem.W.Frag) : Prop where
  ex : exB gl cl K = true
  nm : ∀ F ∈ defs, PySem.W.nsIn K mainGlobals F.nm = some (some (.ref (He.ga K F.nm)))
  fd : ∀ F ∈ defs, ∃ fd, FunD K F.nm F.nm (defArgs F.st) (defBody F.st) (defScope F.st) (dfV F K) [] (He.ga K F.nm) fd
  em : ∀ F ∈ defs, F.df = true → emptyB K (dfl0 F K) = true
/-- the whole look, with the defaults -/
def exM (defs : List Fd) (gl cl : List Nat) (K : PySem.W.Frag) : Bool := exB gl cl K && defs.all fun F => !F.df || emptyB K (dfl0 F K)
theorem exM_ex {defs : List Fd} {gl cl : List Nat} {K : PySem.W.Frag} (h : exM defs gl cl K = true) : exB gl cl K = true := (and2 h).1
theorem exM_em {defs : List Fd} {gl cl : List Nat} {K : PySem.W.Frag} (h : exM defs gl cl K = true) : ∀ F ∈ defs, F.df = true → emptyB K (dfl0 F K) = true := fun F hF e => by
  have := List.all_eq_true.mp (and2 h).2 F hF
  rw [e] at this
  simpa using this
theorem dfs_ok {K : PySem.W.Frag} {F : Fd} {a : Addr} (h : ∃ fd, FunD K F.nm F.nm (defArgs F.st) (defBody F.st) (defScope F.st) ((if F.df then [He.Dv.adr (dfl0 F)] else []).map (He.Dv.v K)) [] a fd) : ∃ fd, FunD K F.nm F.nm (defArgs F.st) (defBody F.st) (defScope F.st) (dfV F K) [] a fd := by
  obtain ⟨fd, h⟩ := h
  refine ⟨fd, ?_⟩
  unfold dfV
  cases q : F.df with
  | true => rw [q] at h; exact h
  | false => rw [q] at h; exact h
section
variable {defs : List Fd} {gl cl : List Nat} {K : PySem.W.Frag} {P : Program} {w : World} {mg : Str → Option Value} {base : Heap}
theorem allFn (T : Told defs gl cl K) (X : K.In base) (G : base.Ns mainGlobals mg) (hB : AllF BindP defs) (hΦ : AllF (fun F => PhiOf defs F.id = some F.d) defs) (hD : AllF (fun F => defB defs gl cl F = true) defs) :
    ∀ (n : Nat) (F : Fd), F ∈ defs → ∀ fd, FunD K F.nm F.nm (defArgs F.st) (defBody F.st) (defScope F.st) (dfV F K) [] (He.ga K F.nm) fd → FnG P w K mg base n (He.ga K F.nm) fd F.ps (spF (PhiOf defs) K (Cof K) n F.id) := by
  intro n
  induction n with
  | zero =>
    intro F hF fd hfd
    exact ⟨fun vs H Q E h => by obtain ⟨_, _, _, _, _, m⟩ := h; exact m.elim, fun A outer s H args us vs Q E _ _ _ _ _ h => by obtain ⟨_, _, _, _, _, m⟩ := h; exact m.elim⟩
  | succ n ih =>
    intro F hF fd hfd
    obtain ⟨d1, k1⟩ := and2 (AllF.mem hD F hF)
    obtain ⟨d2, k2⟩ := and2 k1
    obtain ⟨d3, d4⟩ := and2 k2
    obtain ⟨oc, od, dV, kV, doc, pm, an, cdv, ct, osl, rfl, lk, hcd, _, _⟩ := hfd.ex
    have sc := scope_ok d1
    refine fnG_of lk hcd sc (AllF.mem hΦ F hF) (of_decide_eq_true d2) (of_decide_eq_true d3) d4 fun A outer s H E hg hr => ⟨⟨rfl, rfl, sc.nd, rfl, rfl, takes_of rfl rfl rfl rfl, hr, hg, fun _ _ => rfl, exB_free T.ex X G, exB_glo T.ex X G, fun x g hx => ?_, fun x g hx => ?_, fun x c hx => ?_, fun q => exB_cls (by have := of_decide_eq_true q; rw [← this]; exact T.ex), exB_mak T.ex⟩, sc.kind, passes_of rfl, rfl, rfl, rfl⟩
    · obtain ⟨F', hF', rfl, rfl⟩ := fnT_ok hx
      obtain ⟨fd', hfd'⟩ := T.fd F' hF'
      refine ⟨_, fd', F'.ps, PySem.W.mg_of X G (T.nm F' hF'), hfd'.kp, ?_, ih F' hF' fd' hfd'⟩
      have b := AllF.mem hB F' hF'
      unfold BindP at b
      cases q : F'.df with
      | false =>
        rw [q] at b
        have e : dfV F' K = [] := by unfold dfV; rw [q]; rfl
        rw [e] at hfd'
        exact hfd'.bindsN b
      | true =>
        rw [q] at b
        have e : dfV F' K = [.ref (dfl0 F' K)] := by unfold dfV; rw [q]; rfl
        rw [e] at hfd'
        obtain ⟨ds, v, bb⟩ := hfd'.binds1 F'.ps.length 1 (by simp) (by simp) b.2.2
        cases v
        exact bb
    · obtain ⟨F', hF', e⟩ := List.mem_map.mp (mem_of_lookup hx)
      cases e
      obtain ⟨hF', hdf⟩ := List.mem_filter.mp hF'
      obtain ⟨fd', hfd'⟩ := T.fd F' hF'
      have b := AllF.mem hB F' hF'
      unfold BindP at b
      rw [hdf] at b
      have hpos := b.1
      have e : dfV F' K = [.ref (dfl0 F' K)] := by unfold dfV; rw [hdf]; rfl
      have hfd2 := hfd'
      rw [e] at hfd2
      obtain ⟨ds, v, bb⟩ := hfd2.binds1 (F'.ps.length - 1) 0 (by simp) (by simp; omega) (fun T kV doc pm an cdv ct us its h1 h2 => b.2.1 T kV doc pm an cdv ct us its (by omega) h2)
      exact ⟨_, fd', F'.ps, _, ds, PySem.W.mg_of X G (T.nm F' hF'), hfd'.kp, bb, v, emptyB_ok (T.em F' hF' hdf), ih F' hF' fd' hfd'⟩
    · obtain ⟨h1, h2, h3, h4, h5⟩ := exB_names T.ex X G hx
      exact ⟨h1, h2, h3, raises_own h4 h5⟩
/-- the law's def answers true on every script, if its meaning does -/
theorem law_spec (T : Told defs gl cl K) {L : Fd} (hL : L ∈ defs) {n : Nat} {ns : List Int} {H : Hp} {a : Addr} (kz : KZ K H) (hS : SqF K H a (ns.map V.int)) (h : ∃ S', callN (PhiOf defs) n L.id [.scr ns] [] = .ok (.bl true) S') : spF (PhiOf defs) K (Cof K) n L.id [.ref a] H (fun v _ => v = .bl true) fun _ _ _ => False := by
  obtain ⟨S', h⟩ := h
  refine ⟨⟨[], []⟩, [], [.scr ns], ⟨⟨List.nodup_nil, rfl, fun k a o e => (by cases e), fun a ha => (by cases ha)⟩, kz⟩, ⟨_, [], rfl, ⟨a, rfl, hS⟩, rfl⟩, ?_⟩
  rw [h]
  exact fun v H' μ' _ _ i => i
end
end SL
set_option Elab.async false
set_option linter.all false
set_option maxRecDepth 100000
set_option maxHeartbeats 0
namespace SL
def f1_is_right_word : Def := ⟨1, 2, (.cons (.ret (.and (.isi (.var 0) [.str]) (.blt .all (.cons (.comp (.cmp .isin (.var 1) (.glo 0)) (.name 1) (.val (.var 0)) .no [1]) .nil)))) .nil)⟩
def f2_is_right_pattern : Def := ⟨1, 2, (.cons (.ifs (.or (.not (.isi (.var 0) [.tup])) (.or (.cmp .eq (.var 0) (.tup .nil)) (.not (.isi (.sub (.var 0) (.cst (.int 0))) [.str])))) (.cons (.ret (.cst (.bl false))) .nil) .nil) (.cons (.ifs (.cmp .isin (.sub (.var 0) (.cst (.int 0))) (.tup (.cons (.cst (.str [110, 111, 110, 101])) (.cons (.cst (.str [101, 109, 112, 116, 121])) .nil)))) (.cons (.ret (.cmp .eq (.blt .len (.cons (.var 0) .nil)) (.cst (.int 1)))) .nil) .nil) (.cons (.ifs (.cmp .eq (.sub (.var 0) (.cst (.int 0))) (.cst (.str [115, 105, 103, 110]))) (.cons (.ret (.and (.cmp .eq (.blt .len (.cons (.var 0) .nil)) (.cst (.int 2))) (.and (.call 1 (.cons (.sub (.var 0) (.cst (.int 1))) .nil)) (.cmp .eq (.blt .len (.cons (.sub (.var 0) (.cst (.int 1))) .nil)) (.cst (.int 1)))))) .nil) .nil) (.cons (.ifs (.cmp .eq (.sub (.var 0) (.cst (.int 0))) (.cst (.str [115, 116, 97, 114]))) (.cons (.ret (.and (.cmp .eq (.blt .len (.cons (.var 0) .nil)) (.cst (.int 2))) (.call 2 (.cons (.sub (.var 0) (.cst (.int 1))) .nil)))) .nil) .nil) (.cons (.ret (.and (.cmp .isin (.sub (.var 0) (.cst (.int 0))) (.tup (.cons (.cst (.str [111, 114])) (.cons (.cst (.str [116, 104, 101, 110])) .nil)))) (.and (.cmp .eq (.blt .len (.cons (.var 0) .nil)) (.cst (.int 3))) (.blt .all (.cons (.comp (.call 2 (.cons (.var 1) .nil)) (.name 1) (.val (.slc (.var 0) (.yes (.cst (.int 1))) .no)) .no [1]) .nil))))) .nil)))))⟩
def f3_look_at_pattern : Def := ⟨1, 1, (.cons (.ifs (.not (.call 2 (.cons (.var 0) .nil))) (.cons (.raise 1 .nil) .nil) .nil) .nil)⟩
def f6_signs_in : Def := ⟨1, 2, (.cons (.ifs (.cmp .eq (.sub (.var 0) (.cst (.int 0))) (.cst (.str [115, 105, 103, 110]))) (.cons (.ret (.sub (.var 0) (.cst (.int 1)))) .nil) .nil) (.cons (.ret (.mth .join (.cst (.str [])) (.cons (.comp (.call 6 (.cons (.var 1) .nil)) (.name 1) (.val (.slc (.var 0) (.yes (.cst (.int 1))) .no)) .no [1]) .nil))) .nil))⟩
def f7_signs_once : Def := ⟨1, 2, (.cons (.ret (.mth .join (.cst (.str [])) (.cons (.comp (.var 1) (.name 1) (.val (.glo 0)) (.yes (.cmp .isin (.var 1) (.var 0))) [1]) .nil))) .nil)⟩
def f8_signs_of : Def := ⟨1, 1, (.cons (.exp (.call 3 (.cons (.var 0) .nil))) (.cons (.ret (.call 7 (.cons (.call 6 (.cons (.var 0) .nil)) .nil))) .nil))⟩
def f9_empties : Def := ⟨1, 1, (.cons (.ifs (.cmp .eq (.sub (.var 0) (.cst (.int 0))) (.cst (.str [111, 114]))) (.cons (.ret (.or (.call 9 (.cons (.sub (.var 0) (.cst (.int 1))) .nil)) (.call 9 (.cons (.sub (.var 0) (.cst (.int 2))) .nil)))) .nil) .nil) (.cons (.ifs (.cmp .eq (.sub (.var 0) (.cst (.int 0))) (.cst (.str [116, 104, 101, 110]))) (.cons (.ret (.and (.call 9 (.cons (.sub (.var 0) (.cst (.int 1))) .nil)) (.call 9 (.cons (.sub (.var 0) (.cst (.int 2))) .nil)))) .nil) .nil) (.cons (.ret (.cmp .isin (.sub (.var 0) (.cst (.int 0))) (.tup (.cons (.cst (.str [101, 109, 112, 116, 121])) (.cons (.cst (.str [115, 116, 97, 114])) .nil))))) .nil)))⟩
def f10_has_empty : Def := ⟨1, 1, (.cons (.exp (.call 3 (.cons (.var 0) .nil))) (.cons (.ret (.call 9 (.cons (.var 0) .nil))) .nil))⟩
def f11_L_mixed : Def := ⟨2, 3, (.cons (.asg (.name 2) (.bin .mod (.blt .int (.cons (.bin .add (.bin .add (.bin .mul (.bin .mod (.blt .int (.cons (.var 0) .nil)) (.cst (.int 2147483647))) (.cst (.int 48271))) (.bin .mul (.var 1) (.cst (.int 69621)))) (.cst (.int 1048583))) .nil)) (.cst (.int 2147483629)))) (.cons (.asg (.name 2) (.bin .mod (.blt .int (.cons (.bin .mul (.var 2) (.var 2)) .nil)) (.cst (.int 2147483587)))) (.cons (.ret (.bin .mod (.blt .int (.cons (.bin .mul (.var 2) (.bin .add (.var 2) (.cst (.int 2)))) .nil)) (.cst (.int 2147483579)))) .nil)))⟩
def f12_L_pile : Def := ⟨2, 5, (.cons (.asg (.name 2) (.cst (.int 0))) (.cons (.ifs (.cmp .lt (.var 1) (.blt .len (.cons (.var 0) .nil))) (.cons (.asg (.name 2) (.sub (.var 0) (.var 1))) .nil) .nil) (.cons (.ifs (.cmp .ge (.var 2) (.bin .pow (.cst (.int 10)) (.cst (.int 18)))) (.cons (.ret (.newL (.cons (.bin .mod (.blt .int (.cons (.bin .sub (.var 2) (.bin .pow (.cst (.int 10)) (.cst (.int 18)))) .nil)) (.bin .mul (.bin .mul (.bin .mul (.bin .pow (.cst (.int 10)) (.cst (.int 60))) (.bin .pow (.cst (.int 10)) (.cst (.int 60)))) (.bin .pow (.cst (.int 10)) (.cst (.int 60)))) (.bin .pow (.cst (.int 10)) (.cst (.int 60))))) .nil))) .nil) .nil) (.cons (.asg (.name 3) (.cst (.int 0))) (.cons (.fors (.name 4) (.range1 (.cst (.int 24))) (.cons (.asg (.name 3) (.bin .add (.bin .mul (.var 3) (.cst (.int 2147483579))) (.call 11 (.cons (.var 2) (.cons (.bin .add (.bin .add (.bin .mul (.cst (.int 7)) (.var 1)) (.bin .mul (.cst (.int 100)) (.var 4))) (.bin .mul (.var 4) (.var 4))) .nil))))) .nil)) (.cons (.ret (.newL (.cons (.var 3) .nil))) .nil))))))⟩
def f13_L_take : Def := ⟨2, 3, (.cons (.asg (.name 2) (.bin .mod (.blt .int (.cons (.sub (.var 0) (.cst (.int 0))) .nil)) (.var 1))) (.cons (.put (.var 0) (.cst (.int 0)) (.bin .fdiv (.sub (.var 0) (.cst (.int 0))) (.var 1))) (.cons (.ret (.var 2)) .nil)))⟩
def f14_L_letters : Def := ⟨1, 1, (.cons (.ret (.sub (.lst (.cons (.cst (.str [97])) (.cons (.cst (.str [97, 98])) (.cons (.cst (.str [97, 98])) (.cons (.cst (.str [97, 98])) (.cons (.cst (.str [97, 98, 99])) (.cons (.cst (.str [98, 104])) (.cons (.cst (.str [97, 99, 103])) .nil)))))))) (.call 13 (.cons (.var 0) (.cons (.cst (.int 7)) .nil))))) .nil)⟩
def f15_L_leaf : Def := ⟨3, 4, (.cons (.asg (.name 3) (.call 13 (.cons (.var 0) (.cons (.cst (.int 9)) .nil)))) (.cons (.augS (.var 2) (.cst (.int 1)) .sub (.cst (.int 1))) (.cons (.ifs (.or (.cmp .eq (.var 3) (.cst (.int 0))) (.cmp .eq (.sub (.var 2) (.cst (.int 0))) (.cst (.int 0)))) (.cons (.ret (.sub (.lst (.cons (.tup (.cons (.cst (.str [101, 109, 112, 116, 121])) .nil)) (.cons (.tup (.cons (.cst (.str [110, 111, 110, 101])) .nil)) .nil))) (.blt .int (.cons (.cmp .eq (.call 13 (.cons (.var 0) (.cons (.cst (.int 5)) .nil))) (.cst (.int 0))) .nil)))) .nil) .nil) (.cons (.augS (.var 2) (.cst (.int 0)) .sub (.cst (.int 1))) (.cons (.ret (.tup (.cons (.cst (.str [115, 105, 103, 110])) (.cons (.sub (.var 1) (.call 13 (.cons (.var 0) (.cons (.blt .len (.cons (.var 1) .nil)) .nil)))) .nil)))) .nil)))))⟩
def f16_L_pattern : Def := ⟨4, 6, (.cons (.asg (.name 4) (.call 13 (.cons (.var 0) (.cons (.cst (.int 10)) .nil)))) (.cons (.ifs (.or (.cmp .eq (.var 3) (.cst (.int 0))) (.or (.cmp .lt (.sub (.var 2) (.cst (.int 1))) (.cst (.int 3))) (.cmp .lt (.var 4) (.cst (.int 2))))) (.cons (.ret (.call 15 (.cons (.var 0) (.cons (.var 1) (.cons (.var 2) .nil))))) .nil) .nil) (.cons (.augS (.var 2) (.cst (.int 1)) .sub (.cst (.int 1))) (.cons (.ifs (.cmp .lt (.var 4) (.cst (.int 5))) (.cons (.ret (.tup (.cons (.cst (.str [115, 116, 97, 114])) (.cons (.call 16 (.cons (.var 0) (.cons (.var 1) (.cons (.var 2) (.cons (.bin .sub (.var 3) (.cst (.int 1))) .nil))))) .nil)))) .nil) .nil) (.cons (.augS (.var 2) (.cst (.int 1)) .sub (.cst (.int 1))) (.cons (.asg (.name 5) (.call 16 (.cons (.var 0) (.cons (.var 1) (.cons (.var 2) (.cons (.bin .sub (.var 3) (.cst (.int 1))) .nil)))))) (.cons (.augS (.var 2) (.cst (.int 1)) .add (.cst (.int 1))) (.cons (.ret (.tup (.cons (.sub (.lst (.cons (.cst (.str [111, 114])) (.cons (.cst (.str [116, 104, 101, 110])) .nil))) (.bin .mod (.var 4) (.cst (.int 2)))) (.cons (.var 5) (.cons (.call 16 (.cons (.var 0) (.cons (.var 1) (.cons (.var 2) (.cons (.bin .sub (.var 3) (.cst (.int 1))) .nil))))) .nil))))) .nil))))))))⟩
def f17_L_drawn : Def := ⟨3, 3, (.cons (.ret (.call 16 (.cons (.var 0) (.cons (.var 1) (.cons (.newL (.cons (.var 2) (.cons (.bin .add (.bin .mul (.cst (.int 3)) (.var 2)) (.cst (.int 2))) .nil))) (.cons (.bin .add (.cst (.int 1)) (.call 13 (.cons (.var 0) (.cons (.cst (.int 4)) .nil)))) .nil)))))) .nil)⟩
def f21_L_is_word : Def := ⟨1, 2, (.cons (.ret (.and (.isi (.var 0) [.str]) (.cmp .eq (.comp (.var 1) (.name 1) (.val (.var 0)) (.yes (.cmp .notin (.var 1) (.cst (.str [97, 98, 99, 100, 101, 102, 103, 104])))) [1]) (.lst .nil)))) .nil)⟩
def f22_L_is_pattern : Def := ⟨1, 1, (.cons (.ifs (.or (.not (.isi (.var 0) [.tup])) (.or (.cmp .eq (.var 0) (.tup .nil)) (.not (.isi (.sub (.var 0) (.cst (.int 0))) [.str])))) (.cons (.ret (.cst (.bl false))) .nil) .nil) (.cons (.ifs (.cmp .isin (.var 0) (.lst (.cons (.tup (.cons (.cst (.str [110, 111, 110, 101])) .nil)) (.cons (.tup (.cons (.cst (.str [101, 109, 112, 116, 121])) .nil)) .nil)))) (.cons (.ret (.cst (.bl true))) .nil) .nil) (.cons (.ifs (.cmp .eq (.sub (.var 0) (.cst (.int 0))) (.cst (.str [115, 105, 103, 110]))) (.cons (.ret (.and (.cmp .eq (.blt .len (.cons (.var 0) .nil)) (.cst (.int 2))) (.and (.call 21 (.cons (.sub (.var 0) (.cst (.int 1))) .nil)) (.cmp .eq (.blt .len (.cons (.sub (.var 0) (.cst (.int 1))) .nil)) (.cst (.int 1)))))) .nil) .nil) (.cons (.ifs (.cmp .eq (.sub (.var 0) (.cst (.int 0))) (.cst (.str [115, 116, 97, 114]))) (.cons (.ret (.and (.cmp .eq (.blt .len (.cons (.var 0) .nil)) (.cst (.int 2))) (.call 22 (.cons (.sub (.var 0) (.cst (.int 1))) .nil)))) .nil) .nil) (.cons (.ifs (.or (.cmp .notin (.sub (.var 0) (.cst (.int 0))) (.lst (.cons (.cst (.str [111, 114])) (.cons (.cst (.str [116, 104, 101, 110])) .nil)))) (.cmp .ne (.blt .len (.cons (.var 0) .nil)) (.cst (.int 3)))) (.cons (.ret (.cst (.bl false))) .nil) .nil) (.cons (.ret (.and (.call 22 (.cons (.sub (.var 0) (.cst (.int 1))) .nil)) (.call 22 (.cons (.sub (.var 0) (.cst (.int 2))) .nil)))) .nil))))))⟩
def f27_L_flags : Def := ⟨1, 2, (.cons (.asg (.name 1) (.lst (.cons (.isi (.var 0) [(.own 1)]) (.cons (.isi (.var 0) [(.own 2)]) (.cons (.isi (.var 0) [(.own 4)]) .nil))))) (.cons (.asg (.name 1) (.bin .add (.var 1) (.lst (.cons (.isi (.var 0) [(.own 5)]) (.cons (.isi (.var 0) [(.own 6)]) (.cons (.isi (.var 0) [(.own 13)]) .nil)))))) (.cons (.asg (.name 1) (.bin .add (.var 1) (.lst (.cons (.isi (.var 0) [(.own 3)]) (.cons (.isi (.var 0) [(.own 7)]) (.cons (.isi (.var 0) [(.own 8)]) .nil)))))) (.cons (.asg (.name 1) (.bin .add (.var 1) (.lst (.cons (.isi (.var 0) [(.own 10)]) (.cons (.isi (.var 0) [(.own 11)]) (.cons (.isi (.var 0) [(.own 12)]) .nil)))))) (.cons (.ret (.bin .add (.var 1) (.lst (.cons (.isi (.var 0) [(.own 9)]) (.cons (.isi (.var 0) [(.own 14)]) .nil))))) .nil)))))⟩
def f28_L_error : Def := ⟨1, 3, (.cons (.ifs (.isN (.var 0)) (.cons (.ret (.cst (.str []))) .nil) .nil) (.cons (.asg (.name 1) (.call 27 (.cons (.var 0) .nil))) (.cons (.ifs (.or (.cmp .ne (.mth .count (.var 1) (.cons (.cst (.bl true)) .nil)) (.cst (.int 1))) (.or (.not (.isi (.var 0) [(.own 0)])) (.not (.isi (.var 0) [.ve])))) (.cons (.ret (.cst (.str [111, 116, 104, 101, 114]))) .nil) .nil) (.cons (.asg (.name 2) (.lst (.cons (.cst (.str [112, 97, 116, 116, 101, 114, 110])) (.cons (.cst (.str [119, 111, 114, 100])) (.cons (.cst (.str [116, 111, 108, 100])) (.cons (.cst (.str [115, 105, 103, 110, 115])) (.cons (.cst (.str [108, 105, 110, 101, 115])) (.cons (.cst (.str [112, 97, 114, 116, 101, 100])) (.cons (.cst (.str [108, 101, 110, 103, 116, 104])) (.cons (.cst (.str [108, 105, 110, 101])) (.cons (.cst (.str [110, 117, 109, 98, 101, 114])) (.cons (.cst (.str [114, 111, 119, 115])) (.cons (.cst (.str [109, 97, 110, 121])) (.cons (.cst (.str [111, 110, 101])) .nil)))))))))))))) (.cons (.ret (.sub (.bin .add (.var 2) (.lst (.cons (.cst (.str [117, 110, 108, 105, 107, 101])) (.cons (.cst (.str [116, 101, 120, 116])) .nil)))) (.mth .index (.var 1) (.cons (.cst (.bl true)) .nil)))) .nil)))))⟩
def f23_L_bad_patterns : Def := ⟨1, 2, (.cons (.asg (.name 1) (.lst (.cons (.cst .non) (.cons (.cst (.int 0)) (.cons (.cst (.str [])) (.cons (.cst (.str [97])) (.cons (.tup .nil) (.cons (.lst .nil) (.cons (.tup (.cons (.cst (.str [110, 111, 110, 101])) (.cons (.var 0) .nil))) (.cons (.tup (.cons (.cst (.str [101, 109, 112, 116, 121])) (.cons (.cst (.str [97])) .nil))) (.cons (.tup (.cons (.cst (.str [115, 105, 103, 110])) .nil)) (.cons (.tup (.cons (.cst (.str [115, 105, 103, 110])) (.cons (.cst (.str [105])) .nil))) (.cons (.tup (.cons (.cst (.str [115, 105, 103, 110])) (.cons (.cst (.str [])) .nil))) .nil))))))))))))) (.cons (.asg (.name 1) (.bin .add (.var 1) (.lst (.cons (.tup (.cons (.cst (.str [115, 105, 103, 110])) (.cons (.cst (.str [97, 98])) .nil))) (.cons (.tup (.cons (.cst (.str [115, 105, 103, 110])) (.cons (.var 0) .nil))) (.cons (.tup (.cons (.cst (.str [115, 105, 103, 110])) (.cons (.cst (.str [65])) .nil))) (.cons (.tup (.cons (.cst (.str [115, 105, 103, 110])) (.cons (.cst (.int 0)) .nil))) (.cons (.tup (.cons (.cst (.str [115, 105, 103, 110])) (.cons (.cst (.str [97])) (.cons (.cst (.str [98])) .nil)))) (.cons (.tup (.cons (.cst (.str [111, 114])) (.cons (.var 0) .nil))) .nil))))))))) (.cons (.asg (.name 1) (.bin .add (.var 1) (.lst (.cons (.tup (.cons (.cst (.str [116, 104, 101, 110])) (.cons (.var 0) (.cons (.var 0) (.cons (.var 0) .nil))))) (.cons (.tup (.cons (.cst (.str [115, 116, 97, 114])) .nil)) (.cons (.tup (.cons (.cst (.str [115, 116, 97, 114])) (.cons (.var 0) (.cons (.var 0) .nil)))) (.cons (.tup (.cons (.cst (.str [115, 116, 97, 114])) (.cons (.cst (.str [97])) .nil))) (.cons (.tup (.cons (.cst (.str [115, 116, 97, 114])) (.cons (.lst .nil) .nil))) (.cons (.lst (.cons (.cst (.str [115, 116, 97, 114])) (.cons (.var 0) .nil))) .nil))))))))) (.cons (.asg (.name 1) (.bin .add (.var 1) (.lst (.cons (.tup (.cons (.cst (.str [111, 114])) (.cons (.var 0) (.cons (.cst .non) .nil)))) (.cons (.tup (.cons (.cst (.str [111, 114])) (.cons (.cst .non) (.cons (.var 0) .nil)))) (.cons (.tup (.cons (.var 0) (.cons (.var 0) .nil))) (.cons (.tup (.cons (.cst (.str [116, 104, 101, 110])) (.cons (.tup (.cons (.cst (.str [115, 105, 103, 110])) (.cons (.cst (.str [122])) .nil))) (.cons (.var 0) .nil)))) (.cons (.tup (.cons (.cst (.str [116, 104, 101, 110])) (.cons (.var 0) (.cons (.lst (.cons (.cst (.str [110, 111, 110, 101])) .nil)) .nil)))) .nil)))))))) (.cons (.asg (.name 1) (.bin .add (.var 1) (.lst (.cons (.tup (.cons (.cst (.str [79, 114])) (.cons (.var 0) (.cons (.var 0) .nil)))) (.cons (.tup (.cons (.cst (.str [97, 110, 100])) (.cons (.var 0) (.cons (.var 0) .nil)))) (.cons (.tup (.cons (.cst (.str [115, 116, 97, 114])) (.cons (.tup (.cons (.cst (.str [115, 116, 97, 114])) .nil)) .nil))) (.cons (.cst (.bl true)) (.cons (.tup (.cons (.cst (.str [111, 114])) (.cons (.tup (.cons (.cst (.str [111, 114])) (.cons (.var 0) (.cons (.tup (.cons (.cst (.str [110, 111, 110, 101])) (.cons (.cst (.int 0)) .nil))) .nil)))) (.cons (.var 0) .nil)))) .nil)))))))) (.cons (.ret (.bin .add (.var 1) (.lst (.cons (.bin .add (.tup (.cons (.cst (.str [110, 111, 110, 101])) .nil)) (.var 0)) (.cons (.tup (.cons (.cst (.str [111, 114])) (.cons (.var 0) (.cons (.var 0) (.cons (.var 0) .nil))))) (.cons (.tup (.cons (.cst (.str [116, 104, 101, 110])) (.cons (.var 0) .nil))) (.cons (.tup (.cons (.cst (.int 0)) (.cons (.var 0) .nil))) (.cons (.blt .list (.cons (.var 0) .nil)) (.cons (.tup (.cons (.cst (.str [119, 111, 114, 100])) (.cons (.cst (.str [97])) .nil))) (.cons (.tup (.cons (.cst .non) (.cons (.var 0) .nil))) (.cons (.cst (.str [110, 111, 110, 101])) .nil))))))))))) .nil))))))⟩
def f29_L_word : Def := ⟨2, 5, (.cons (.asg (.name 2) (.blt .repr (.cons (.var 1) .nil))) (.cons (.asg (.name 3) (.cst .non)) (.cons (.trys (.cons (.ifs (.cmp .eq (.var 0) (.cst (.int 0))) (.cons (.exp (.call 8 (.cons (.var 1) .nil))) .nil) (.cons (.exp (.call 10 (.cons (.var 1) .nil))) .nil)) .nil) 0 4 3) (.cons (.ifs (.cmp .ne (.blt .repr (.cons (.var 1) .nil)) (.var 2)) (.cons (.ret (.cst (.str [99, 104, 97, 110, 103, 101, 100]))) .nil) .nil) (.cons (.ret (.call 28 (.cons (.var 3) .nil))) .nil)))))⟩
def f0_k02 : Def := ⟨1, 6, (.cons (.fors (.name 1) (.range1 (.blt .max (.cons (.cst (.int 2)) (.cons (.blt .min (.cons (.blt .len (.cons (.var 0) .nil)) (.cons (.cst (.int 6)) .nil))) .nil)))) (.cons (.asg (.name 2) (.call 12 (.cons (.var 0) (.cons (.var 1) .nil)))) (.cons (.asg (.name 3) (.call 17 (.cons (.var 2) (.cons (.call 14 (.cons (.var 2) .nil)) (.cons (.cst (.int 8)) .nil))))) (.cons (.fors (.name 4) (.range1 (.cst (.int 2))) (.cons (.ifs (.cmp .ne (.call 29 (.cons (.var 4) (.cons (.var 3) .nil))) (.cst (.str []))) (.cons (.ret (.cst (.bl false))) .nil) .nil) (.cons (.fors (.name 5) (.val (.call 23 (.cons (.var 3) .nil))) (.cons (.ifs (.and (.not (.call 22 (.cons (.var 5) .nil))) (.cmp .ne (.call 29 (.cons (.var 4) (.cons (.var 5) .nil))) (.cst (.str [112, 97, 116, 116, 101, 114, 110])))) (.cons (.ret (.cst (.bl false))) .nil) .nil) .nil)) .nil))) .nil)))) (.cons (.ret (.cst (.bl true))) .nil))⟩
end SL
set_option Elab.async false
set_option linter.all false
set_option maxRecDepth 100000
set_option maxHeartbeats 0
namespace SL
def f4_is_pattern : Def := ⟨1, 1, (.cons (.ret (.call 2 (.cons (.var 0) .nil))) .nil)⟩
def f5_is_word : Def := ⟨1, 1, (.cons (.ret (.call 1 (.cons (.var 0) .nil))) .nil)⟩
def f18_L_ends : Def := ⟨3, 7, (.cons (.asg (.name 3) (.sub (.var 0) (.cst (.int 0)))) (.cons (.ifs (.cmp .eq (.var 3) (.cst (.str [110, 111, 110, 101]))) (.cons (.ret (.lst .nil)) .nil) .nil) (.cons (.ifs (.cmp .eq (.var 3) (.cst (.str [101, 109, 112, 116, 121]))) (.cons (.ret (.var 2)) .nil) .nil) (.cons (.ifs (.cmp .eq (.var 3) (.cst (.str [115, 105, 103, 110]))) (.cons (.ret (.comp (.bin .add (.var 6) (.cst (.int 1))) (.name 6) (.val (.var 2)) (.yes (.cmp .eq (.slc (.var 1) (.yes (.var 6)) (.yes (.bin .add (.var 6) (.cst (.int 1))))) (.sub (.var 0) (.cst (.int 1))))) [6])) .nil) .nil) (.cons (.ifs (.cmp .eq (.var 3) (.cst (.str [111, 114]))) (.cons (.ret (.call 19 (.cons (.bin .add (.call 18 (.cons (.sub (.var 0) (.cst (.int 1))) (.cons (.var 1) (.cons (.var 2) .nil)))) (.call 18 (.cons (.sub (.var 0) (.cst (.int 2))) (.cons (.var 1) (.cons (.var 2) .nil))))) .nil))) .nil) .nil) (.cons (.ifs (.cmp .eq (.var 3) (.cst (.str [116, 104, 101, 110]))) (.cons (.ret (.call 18 (.cons (.sub (.var 0) (.cst (.int 2))) (.cons (.var 1) (.cons (.call 18 (.cons (.sub (.var 0) (.cst (.int 1))) (.cons (.var 1) (.cons (.var 2) .nil)))) .nil))))) .nil) .nil) (.cons (.asg (.name 4) (.var 2)) (.cons (.asg (.name 5) (.var 2)) (.cons (.whl (.cmp .ne (.var 5) (.lst .nil)) (.cons (.asg (.name 5) (.comp (.var 6) (.name 6) (.val (.call 18 (.cons (.sub (.var 0) (.cst (.int 1))) (.cons (.var 1) (.cons (.var 5) .nil))))) (.yes (.cmp .notin (.var 6) (.var 4))) [6])) (.cons (.asg (.name 4) (.bin .add (.var 4) (.var 5))) .nil))) (.cons (.ret (.var 4)) .nil))))))))))⟩
def f19_L_once : Def := ⟨1, 3, (.cons (.asg (.name 1) (.dnew)) (.cons (.fors (.name 2) (.val (.var 0)) (.cons (.put (.var 1) (.var 2) (.cst (.bl true))) .nil)) (.cons (.ret (.keys 1 2)) .nil)))⟩
def f20_L_tells : Def := ⟨2, 2, (.cons (.ret (.cmp .isin (.blt .len (.cons (.var 1) .nil)) (.call 18 (.cons (.var 0) (.cons (.var 1) (.cons (.lst (.cons (.cst (.int 0)) .nil)) .nil)))))) .nil)⟩
def f24_L_bent : Def := ⟨2, 4, (.cons (.ifs (.and (.cmp .isin (.sub (.var 1) (.cst (.int 0))) (.lst (.cons (.cst (.str [111, 114])) (.cons (.cst (.str [116, 104, 101, 110])) (.cons (.cst (.str [115, 116, 97, 114])) .nil))))) (.cmp .gt (.call 13 (.cons (.var 0) (.cons (.cst (.int 3)) .nil))) (.cst (.int 0)))) (.cons (.asg (.name 3) (.bin .add (.cst (.int 1)) (.call 13 (.cons (.var 0) (.cons (.bin .sub (.blt .len (.cons (.var 1) .nil)) (.cst (.int 1))) .nil))))) (.cons (.ret (.bin .add (.bin .add (.slc (.var 1) .no (.yes (.var 3))) (.tup (.cons (.call 24 (.cons (.var 0) (.cons (.sub (.var 1) (.var 3)) .nil))) .nil))) (.slc (.var 1) (.yes (.bin .add (.var 3) (.cst (.int 1)))) .no))) .nil)) .nil) (.cons (.asg (.name 2) (.call 23 (.cons (.var 1) .nil))) (.cons (.ret (.sub (.var 2) (.call 13 (.cons (.var 0) (.cons (.blt .len (.cons (.var 2) .nil)) .nil))))) .nil)))⟩
def f25_L_signs : Def := ⟨1, 2, (.cons (.ifs (.cmp .eq (.sub (.var 0) (.cst (.int 0))) (.cst (.str [115, 105, 103, 110]))) (.cons (.ret (.sub (.var 0) (.cst (.int 1)))) .nil) .nil) (.cons (.ret (.mth .join (.cst (.str [])) (.cons (.comp (.call 25 (.cons (.var 1) .nil)) (.name 1) (.val (.slc (.var 0) (.yes (.cst (.int 1))) .no)) .no [1]) .nil))) .nil))⟩
def f26_L_good : Def := ⟨1, 7, (.cons (.asg (.name 1) (.blt .repr (.cons (.var 0) .nil))) (.cons (.asg (.name 2) (.call 22 (.cons (.var 0) .nil))) (.cons (.asg (.name 3) (.call 4 (.cons (.var 0) .nil))) (.cons (.ifs (.or (.not (.isi (.var 3) [.bool])) (.or (.cmp .ne (.var 3) (.var 2)) (.cmp .ne (.blt .repr (.cons (.var 0) .nil)) (.var 1)))) (.cons (.ret (.cst (.bl false))) .nil) .nil) (.cons (.ifs (.not (.var 2)) (.cons (.ret (.cst (.bl true))) .nil) .nil) (.cons (.asg (.name 4) (.call 25 (.cons (.var 0) .nil))) (.cons (.ifs (.cmp .ne (.call 8 (.cons (.var 0) .nil)) (.mth .join (.cst (.str [])) (.cons (.comp (.var 6) (.name 6) (.val (.cst (.str [97, 98, 99, 100, 101, 102, 103, 104]))) (.yes (.cmp .isin (.var 6) (.var 4))) [6]) .nil))) (.cons (.ret (.cst (.bl false))) .nil) .nil) (.cons (.asg (.name 5) (.call 10 (.cons (.var 0) .nil))) (.cons (.ret (.and (.isi (.var 5) [.bool]) (.and (.cmp .eq (.var 5) (.call 20 (.cons (.var 0) (.cons (.cst (.str [])) .nil)))) (.cmp .eq (.blt .repr (.cons (.var 0) .nil)) (.var 1))))) .nil)))))))))⟩
def f0_k01 : Def := ⟨1, 10, (.cons (.fors (.name 1) (.range1 (.blt .max (.cons (.cst (.int 2)) (.cons (.blt .min (.cons (.blt .len (.cons (.var 0) .nil)) (.cons (.cst (.int 10)) .nil))) .nil)))) (.cons (.asg (.name 4) (.call 12 (.cons (.var 0) (.cons (.var 1) .nil)))) (.cons (.asg (.name 5) (.call 17 (.cons (.var 4) (.cons (.call 14 (.cons (.var 4) .nil)) (.cons (.cst (.int 8)) .nil))))) (.cons (.ifs (.or (.not (.call 26 (.cons (.var 5) .nil))) (.notB true (.call 4 (.cons (.var 5) .nil)))) (.cons (.ret (.cst (.bl false))) .nil) .nil) (.cons (.fors (.name 6) (.range1 (.cst (.int 5))) (.cons (.ifs (.not (.call 26 (.cons (.call 24 (.cons (.var 4) (.cons (.var 5) .nil))) .nil))) (.cons (.ret (.cst (.bl false))) .nil) .nil) .nil)) (.cons (.ifs (.cmp .ne (.comp (.var 3) (.name 3) (.val (.call 23 (.cons (.var 5) .nil))) (.yes (.not (.call 26 (.cons (.var 3) .nil)))) [3]) (.lst .nil)) (.cons (.ret (.cst (.bl false))) .nil) .nil) .nil)))))) (.cons (.asg (.name 2) (.lst (.cons (.cst (.str [])) (.cons (.cst (.str [97])) (.cons (.cst (.str [104])) (.cons (.cst (.str [104, 103, 102, 101, 100, 99, 98, 97])) (.cons (.cst (.str [105])) (.cons (.cst (.str [65])) (.cons (.cst (.str [97, 66])) (.cons (.cst (.str [97, 32, 98])) (.cons (.cst (.str [32])) (.cons (.cst .non) (.cons (.cst (.int 0)) (.cons (.cst (.bl true)) (.cons (.lst (.cons (.cst (.str [97])) .nil)) (.cons (.tup (.cons (.cst (.str [97])) .nil)) (.cons (.cst (.str [97, 98, 10])) (.cons (.tup .nil) (.cons (.lst .nil) .nil))))))))))))))))))) (.cons (.fors (.name 3) (.val (.bin .add (.var 2) (.lst (.cons (.cst (.str [48])) (.cons (.bin .mul (.cst (.str [97])) (.cst (.int 31))) (.cons (.bin .mul (.cst (.str [97, 98, 104])) (.cst (.int 200))) (.cons (.bin .add (.bin .mul (.cst (.str [97, 98, 104])) (.cst (.int 200))) (.cst (.str [105]))) .nil))))))) (.cons (.asg (.name 7) (.call 5 (.cons (.var 3) .nil))) (.cons (.ifs (.or (.not (.isi (.var 7) [.bool])) (.cmp .ne (.var 7) (.call 21 (.cons (.var 3) .nil)))) (.cons (.ret (.cst (.bl false))) .nil) .nil) .nil))) (.cons (.par [8, 9] (.cons (.tup (.cons (.cst (.str [115, 105, 103, 110])) (.cons (.cst (.str [97])) .nil))) (.cons (.tup (.cons (.cst (.str [115, 105, 103, 110])) (.cons (.cst (.str [98])) .nil))) .nil))) (.cons (.fors (.name 1) (.range1 (.cst (.int 5))) (.cons (.asg (.name 8) (.tup (.cons (.cst (.str [111, 114])) (.cons (.var 8) (.cons (.tup (.cons (.cst (.str [116, 104, 101, 110])) (.cons (.var 8) (.cons (.var 8) .nil)))) .nil))))) (.cons (.asg (.name 9) (.tup (.cons (.cst (.str [115, 116, 97, 114])) (.cons (.tup (.cons (.cst (.str [111, 114])) (.cons (.tup (.cons (.cst (.str [115, 116, 97, 114])) (.cons (.var 9) .nil))) (.cons (.tup (.cons (.cst (.str [101, 109, 112, 116, 121])) .nil)) .nil)))) .nil)))) .nil))) (.cons (.ifs (.or (.notB true (.call 4 (.cons (.var 8) .nil))) (.or (.notB true (.call 4 (.cons (.tup (.cons (.cst (.str [111, 114])) (.cons (.var 9) (.cons (.var 8) .nil)))) .nil))) (.call 4 (.cons (.tup (.cons (.cst (.str [111, 114])) (.cons (.var 9) (.cons (.lst (.cons (.var 8) .nil)) .nil)))) .nil)))) (.cons (.ret (.cst (.bl false))) .nil) .nil) (.cons (.ret (.and (.isB true (.call 4 (.cons (.tup (.cons (.cst (.str [115, 105, 103, 110])) (.cons (.cst (.str [104])) .nil))) .nil))) (.isB false (.call 4 (.cons (.tup (.cons (.cst (.str [115, 105, 103, 110])) (.cons (.cst (.str [105])) .nil))) .nil))))) .nil)))))))⟩
end SL
set_option Elab.async false
set_option linter.all false
set_option maxRecDepth 100000
set_option maxHeartbeats 0
namespace SL
def f49_is_whole : Def := ⟨1, 1, (.cons (.ret (.and (.isi (.var 0) [.int]) (.not (.isi (.var 0) [.bool])))) .nil)⟩
def f50_is_below : Def := ⟨2, 2, (.cons (.ret (.and (.call 49 (.cons (.var 0) .nil)) (.and (.cmp .le (.cst (.int 0)) (.var 0)) (.cmp .lt (.var 0) (.var 1))))) .nil)⟩
def f51_look_at_told : Def := ⟨1, 2, (.cons (.ifs (.or (.not (.isi (.var 0) [.lst, .tup])) (.not (.blt .all (.cons (.comp (.call 2 (.cons (.var 1) .nil)) (.name 1) (.val (.var 0)) .no [1]) .nil)))) (.cons (.raise 4 .nil) .nil) .nil) .nil)⟩
def f32_behind_by : Def := ⟨3, 3, (.cons (.ifs (.and (.cmp .eq (.var 0) (.cst (.str [103, 114, 111, 117, 112, 101, 100]))) (.cmp .eq (.sub (.var 1) (.cst (.int 0))) (.cst (.str [116, 104, 101, 110])))) (.cons (.ret (.tup (.cons (.cst (.str [116, 104, 101, 110])) (.cons (.sub (.var 1) (.cst (.int 1))) (.cons (.tup (.cons (.cst (.str [116, 104, 101, 110])) (.cons (.sub (.var 1) (.cst (.int 2))) (.cons (.var 2) .nil)))) .nil))))) .nil) .nil) (.cons (.ifs (.and (.cmp .eq (.var 0) (.cst (.str [101, 109, 112, 116, 121, 32, 97, 104, 101, 97, 100]))) (.cmp .eq (.var 1) (.glo 2))) (.cons (.ret (.var 2)) .nil) .nil) (.cons (.ifs (.and (.cmp .eq (.var 0) (.cst (.str [101, 109, 112, 116, 121, 32, 98, 101, 104, 105, 110, 100]))) (.cmp .eq (.var 2) (.glo 2))) (.cons (.ret (.var 1)) .nil) .nil) (.cons (.ifs (.or (.and (.cmp .eq (.var 0) (.cst (.str [110, 111, 110, 101, 32, 97, 104, 101, 97, 100]))) (.cmp .eq (.var 1) (.glo 1))) (.and (.cmp .eq (.var 0) (.cst (.str [110, 111, 110, 101, 32, 98, 101, 104, 105, 110, 100]))) (.cmp .eq (.var 2) (.glo 1)))) (.cons (.ret (.glo 1)) .nil) .nil) (.cons (.ifs (.and (.cmp .eq (.var 0) (.cst (.str [115, 112, 114, 101, 97, 100, 32, 97, 104, 101, 97, 100]))) (.cmp .eq (.sub (.var 2) (.cst (.int 0))) (.cst (.str [111, 114])))) (.cons (.ret (.tup (.cons (.cst (.str [111, 114])) (.cons (.tup (.cons (.cst (.str [116, 104, 101, 110])) (.cons (.var 1) (.cons (.sub (.var 2) (.cst (.int 1))) .nil)))) (.cons (.tup (.cons (.cst (.str [116, 104, 101, 110])) (.cons (.var 1) (.cons (.sub (.var 2) (.cst (.int 2))) .nil)))) .nil))))) .nil) .nil) (.cons (.ifs (.and (.cmp .eq (.var 0) (.cst (.str [115, 112, 114, 101, 97, 100, 32, 98, 101, 104, 105, 110, 100]))) (.cmp .eq (.sub (.var 1) (.cst (.int 0))) (.cst (.str [111, 114])))) (.cons (.ret (.tup (.cons (.cst (.str [111, 114])) (.cons (.tup (.cons (.cst (.str [116, 104, 101, 110])) (.cons (.sub (.var 1) (.cst (.int 1))) (.cons (.var 2) .nil)))) (.cons (.tup (.cons (.cst (.str [116, 104, 101, 110])) (.cons (.sub (.var 1) (.cst (.int 2))) (.cons (.var 2) .nil)))) .nil))))) .nil) .nil) (.cons (.ret (.cst .non)) .nil)))))))⟩
def f33_star_by : Def := ⟨2, 2, (.cons (.ifs (.cmp .eq (.var 0) (.cst (.str [117, 110, 114, 111, 108, 108, 101, 100]))) (.cons (.ret (.tup (.cons (.cst (.str [111, 114])) (.cons (.glo 2) (.cons (.tup (.cons (.cst (.str [116, 104, 101, 110])) (.cons (.var 1) (.cons (.tup (.cons (.cst (.str [115, 116, 97, 114])) (.cons (.var 1) .nil))) .nil)))) .nil))))) .nil) .nil) (.cons (.ifs (.and (.cmp .eq (.var 0) (.cst (.str [115, 107, 105, 112, 112, 101, 100]))) (.and (.cmp .eq (.sub (.var 1) (.cst (.int 0))) (.cst (.str [111, 114]))) (.cmp .eq (.sub (.var 1) (.cst (.int 1))) (.glo 2)))) (.cons (.ret (.tup (.cons (.cst (.str [115, 116, 97, 114])) (.cons (.sub (.var 1) (.cst (.int 2))) .nil)))) .nil) .nil) (.cons (.ret (.cst .non)) .nil)))⟩
def f448_is_right_rule : Def := ⟨3, 3, (.cons (.ifs (.not (.isi (.var 0) [.str])) (.cons (.ret (.cst (.bl false))) .nil) .nil) (.cons (.ifs (.cmp .eq (.var 0) (.cst (.str [103, 97, 116, 104, 101, 114, 101, 100]))) (.cons (.ret (.never)) .nil) .nil) (.cons (.ifs (.cmp .eq (.sub (.var 1) (.cst (.int 0))) (.cst (.str [116, 104, 101, 110]))) (.cons (.ret (.cmp .eq (.call 32 (.cons (.var 0) (.cons (.sub (.var 1) (.cst (.int 1))) (.cons (.sub (.var 1) (.cst (.int 2))) .nil)))) (.var 2))) .nil) .nil) (.cons (.ret (.and (.cmp .eq (.sub (.var 1) (.cst (.int 0))) (.cst (.str [115, 116, 97, 114]))) (.cmp .eq (.call 33 (.cons (.var 0) (.cons (.sub (.var 1) (.cst (.int 1))) .nil))) (.var 2)))) .nil))))⟩
def f53_are_numbers : Def := ⟨2, 3, (.cons (.ret (.blt .all (.cons (.comp (.call 50 (.cons (.var 2) (.cons (.var 1) .nil))) (.name 2) (.val (.var 0)) .no [2]) .nil))) .nil)⟩
def f57_by_told : Def := ⟨2, 2, (.cons (.ret (.ite (.call 50 (.cons (.var 0) (.cons (.blt .len (.cons (.var 1) .nil)) .nil))) (.tup (.cons (.sub (.var 1) (.var 0)) (.cons (.glo 1) .nil))) (.cst .non))) .nil)⟩
def f58_by_lines : Def := ⟨3, 6, (.cons (.ifs (.cmp .ne (.blt .len (.cons (.var 1) .nil)) (.dget (.disp [(.str [116, 117, 114, 110, 101, 100]), (.str [99, 104, 97, 105, 110, 101, 100]), (.str [111, 114]), (.str [116, 104, 101, 110]), (.str [115, 116, 97, 114])] (.cons (.cst (.int 1)) (.cons (.cst (.int 2)) (.cons (.cst (.int 2)) (.cons (.cst (.int 2)) (.cons (.cst (.int 1)) .nil)))))) (.var 0) (.neg (.cst (.int 1))))) (.cons (.ret (.cst .non)) .nil) .nil) (.cons (.ifs (.not (.call 53 (.cons (.var 1) (.cons (.blt .len (.cons (.var 2) .nil)) .nil)))) (.cons (.ret (.cst .non)) .nil) .nil) (.cons (.asg (.name 3) (.comp (.slc (.sub (.var 2) (.var 4)) .no (.yes (.cst (.int 2)))) (.name 4) (.val (.var 1)) .no [4])) (.cons (.ifs (.cmp .eq (.var 0) (.cst (.str [116, 117, 114, 110, 101, 100]))) (.cons (.ret (.tup (.cons (.sub (.sub (.var 3) (.cst (.int 0))) (.cst (.int 1))) (.cons (.sub (.sub (.var 3) (.cst (.int 0))) (.cst (.int 0))) .nil)))) .nil) .nil) (.cons (.ifs (.cmp .eq (.var 0) (.cst (.str [99, 104, 97, 105, 110, 101, 100]))) (.cons (.ret (.ite (.cmp .eq (.sub (.sub (.var 3) (.cst (.int 0))) (.cst (.int 1))) (.sub (.sub (.var 3) (.cst (.int 1))) (.cst (.int 0)))) (.tup (.cons (.sub (.sub (.var 3) (.cst (.int 0))) (.cst (.int 0))) (.cons (.sub (.sub (.var 3) (.cst (.int 1))) (.cst (.int 1))) .nil))) (.cst .non))) .nil) .nil) (.cons (.ret (.tup (.cons (.tup (.cons (.var 0) (.star (.comp (.sub (.var 5) (.cst (.int 0))) (.name 5) (.val (.var 3)) .no [5]) .nil))) (.cons (.tup (.cons (.var 0) (.star (.comp (.sub (.var 5) (.cst (.int 1))) (.name 5) (.val (.var 3)) .no [5]) .nil))) .nil)))) .nil))))))⟩
def f449_concluded : Def := ⟨3, 3, (.cons (.ifs (.or (.not (.isi (.var 0) [.tup])) (.or (.cmp .eq (.var 0) (.tup .nil)) (.not (.isi (.sub (.var 0) (.cst (.int 0))) [.str])))) (.cons (.ret (.cst .non)) .nil) .nil) (.cons (.ifs (.cmp .eq (.sub (.var 0) (.cst (.int 0))) (.cst (.str [112, 97, 105, 114, 115]))) (.cons (.ret (.ite (.cmp .eq (.blt .len (.cons (.var 0) .nil)) (.cst (.int 2))) (.never) (.cst .non))) .nil) .nil) (.cons (.ifs (.cmp .eq (.sub (.var 0) (.cst (.int 0))) (.cst (.str [116, 111, 108, 100]))) (.cons (.ret (.ite (.cmp .eq (.blt .len (.cons (.var 0) .nil)) (.cst (.int 2))) (.call 57 (.cons (.sub (.var 0) (.cst (.int 1))) (.cons (.var 2) .nil))) (.cst .non))) .nil) .nil) (.cons (.ret (.call 58 (.cons (.sub (.var 0) (.cst (.int 0))) (.cons (.slc (.var 0) (.yes (.cst (.int 1))) .no) (.cons (.var 1) .nil))))) .nil))))⟩
def f450_holds : Def := ⟨5, 5, (.cons (.ifs (.or (.not (.isi (.var 2) [.tup])) (.or (.cmp .eq (.var 2) (.tup .nil)) (.not (.isi (.sub (.var 2) (.cst (.int 0))) [.str])))) (.cons (.ret (.cst (.bl false))) .nil) .nil) (.cons (.ifs (.cmp .eq (.sub (.var 2) (.cst (.int 0))) (.cst (.str [114, 117, 108, 101]))) (.cons (.ret (.and (.cmp .eq (.blt .len (.cons (.var 2) .nil)) (.cst (.int 2))) (.call 448 (.cons (.sub (.var 2) (.cst (.int 1))) (.cons (.var 0) (.cons (.var 1) .nil)))))) .nil) .nil) (.cons (.ifs (.cmp .eq (.sub (.var 2) (.cst (.int 0))) (.cst (.str [115, 97, 109, 101]))) (.cons (.ret (.and (.cmp .eq (.blt .len (.cons (.var 2) .nil)) (.cst (.int 1))) (.cmp .eq (.var 0) (.var 1)))) .nil) .nil) (.cons (.ifs (.and (.cmp .eq (.sub (.var 2) (.cst (.int 0))) (.cst (.str [116, 111, 108, 100]))) (.isN (.var 4))) (.cons (.ret (.and (.cmp .eq (.blt .len (.cons (.var 2) .nil)) (.cst (.int 2))) (.and (.call 49 (.cons (.sub (.var 2) (.cst (.int 1))) .nil)) (.and (.cmp .ge (.sub (.var 2) (.cst (.int 1))) (.cst (.int 0))) (.cmp .eq (.var 1) (.glo 1)))))) .nil) .nil) (.cons (.ret (.cmp .eq (.call 449 (.cons (.var 2) (.cons (.var 3) (.cons (.var 4) .nil)))) (.tup (.cons (.var 0) (.cons (.var 1) .nil))))) .nil)))))⟩
def f451_are_lines : Def := ⟨2, 7, (.cons (.ifs (.or (.not (.isi (.var 0) [.lst])) (.cmp .eq (.var 0) (.lst .nil))) (.cons (.ret (.cst (.bl false))) .nil) .nil) (.cons (.asg (.name 2) (.newL .nil)) (.cons (.fors (.name 3) (.val (.var 0)) (.cons (.ifs (.or (.not (.isi (.var 3) [.tup])) (.cmp .ne (.blt .len (.cons (.var 3) .nil)) (.cst (.int 3)))) (.cons (.ret (.cst (.bl false))) .nil) .nil) (.cons (.asg (.tup [4, 5, 6]) (.var 3)) (.cons (.ifs (.or (.not (.call 2 (.cons (.var 4) .nil))) (.or (.not (.call 2 (.cons (.var 5) .nil))) (.not (.call 450 (.cons (.var 4) (.cons (.var 5) (.cons (.var 6) (.cons (.var 2) (.cons (.var 1) .nil))))))))) (.cons (.ret (.cst (.bl false))) .nil) .nil) (.cons (.exp (.mth .append (.var 2) (.cons (.var 3) .nil))) .nil))))) (.cons (.ret (.cst (.bl true))) .nil))))⟩
def f452_is_lines : Def := ⟨4, 4, (.cons (.exp (.call 3 (.cons (.var 1) .nil))) (.cons (.exp (.call 3 (.cons (.var 2) .nil))) (.cons (.exp (.call 51 (.cons (.var 3) .nil))) (.cons (.ret (.and (.call 451 (.cons (.var 0) (.cons (.var 3) .nil))) (.cmp .eq (.slc (.sub (.var 0) (.neg (.cst (.int 1)))) .no (.yes (.cst (.int 2)))) (.tup (.cons (.var 1) (.cons (.var 2) .nil)))))) .nil))))⟩
def f73_L_whole : Def := ⟨1, 1, (.cons (.ret (.and (.isi (.var 0) [.int]) (.not (.isi (.var 0) [.bool])))) .nil)⟩
def f44_L_side : Def := ⟨2, 4, (.cons (.ifs (.and (.cmp .eq (.var 0) (.cst (.str [117, 110, 114, 111, 108, 108, 101, 100]))) (.cmp .eq (.sub (.var 1) (.cst (.int 0))) (.cst (.str [115, 116, 97, 114])))) (.cons (.ret (.tup (.cons (.cst (.str [111, 114])) (.cons (.tup (.cons (.cst (.str [101, 109, 112, 116, 121])) .nil)) (.cons (.tup (.cons (.cst (.str [116, 104, 101, 110])) (.cons (.sub (.var 1) (.cst (.int 1))) (.cons (.var 1) .nil)))) .nil))))) .nil) .nil) (.cons (.ifs (.and (.cmp .eq (.var 0) (.cst (.str [115, 107, 105, 112, 112, 101, 100]))) (.and (.cmp .eq (.sub (.var 1) (.cst (.int 0))) (.cst (.str [115, 116, 97, 114]))) (.and (.cmp .eq (.sub (.sub (.var 1) (.cst (.int 1))) (.cst (.int 0))) (.cst (.str [111, 114]))) (.cmp .eq (.sub (.sub (.var 1) (.cst (.int 1))) (.cst (.int 1))) (.tup (.cons (.cst (.str [101, 109, 112, 116, 121])) .nil)))))) (.cons (.ret (.tup (.cons (.cst (.str [115, 116, 97, 114])) (.cons (.sub (.sub (.var 1) (.cst (.int 1))) (.cst (.int 2))) .nil)))) .nil) .nil) (.cons (.ifs (.cmp .ne (.sub (.var 1) (.cst (.int 0))) (.cst (.str [116, 104, 101, 110]))) (.cons (.ret (.cst .non)) .nil) .nil) (.cons (.par [2, 3] (.cons (.sub (.var 1) (.cst (.int 1))) (.cons (.sub (.var 1) (.cst (.int 2))) .nil))) (.cons (.ifs (.and (.cmp .eq (.var 0) (.cst (.str [103, 114, 111, 117, 112, 101, 100]))) (.cmp .eq (.sub (.var 2) (.cst (.int 0))) (.cst (.str [116, 104, 101, 110])))) (.cons (.ret (.tup (.cons (.cst (.str [116, 104, 101, 110])) (.cons (.sub (.var 2) (.cst (.int 1))) (.cons (.tup (.cons (.cst (.str [116, 104, 101, 110])) (.cons (.sub (.var 2) (.cst (.int 2))) (.cons (.var 3) .nil)))) .nil))))) .nil) .nil) (.cons (.ifs (.and (.cmp .eq (.var 0) (.cst (.str [101, 109, 112, 116, 121, 32, 97, 104, 101, 97, 100]))) (.cmp .eq (.var 2) (.tup (.cons (.cst (.str [101, 109, 112, 116, 121])) .nil)))) (.cons (.ret (.var 3)) .nil) .nil) (.cons (.ifs (.and (.cmp .eq (.var 0) (.cst (.str [101, 109, 112, 116, 121, 32, 98, 101, 104, 105, 110, 100]))) (.cmp .eq (.var 3) (.tup (.cons (.cst (.str [101, 109, 112, 116, 121])) .nil)))) (.cons (.ret (.var 2)) .nil) .nil) (.cons (.ifs (.or (.and (.cmp .eq (.var 0) (.cst (.str [110, 111, 110, 101, 32, 97, 104, 101, 97, 100]))) (.cmp .eq (.var 2) (.tup (.cons (.cst (.str [110, 111, 110, 101])) .nil)))) (.and (.cmp .eq (.var 0) (.cst (.str [110, 111, 110, 101, 32, 98, 101, 104, 105, 110, 100]))) (.cmp .eq (.var 3) (.tup (.cons (.cst (.str [110, 111, 110, 101])) .nil))))) (.cons (.ret (.tup (.cons (.cst (.str [110, 111, 110, 101])) .nil))) .nil) .nil) (.cons (.ifs (.and (.cmp .eq (.var 0) (.cst (.str [115, 112, 114, 101, 97, 100, 32, 97, 104, 101, 97, 100]))) (.cmp .eq (.sub (.var 3) (.cst (.int 0))) (.cst (.str [111, 114])))) (.cons (.ret (.tup (.cons (.cst (.str [111, 114])) (.cons (.tup (.cons (.cst (.str [116, 104, 101, 110])) (.cons (.var 2) (.cons (.sub (.var 3) (.cst (.int 1))) .nil)))) (.cons (.tup (.cons (.cst (.str [116, 104, 101, 110])) (.cons (.var 2) (.cons (.sub (.var 3) (.cst (.int 2))) .nil)))) .nil))))) .nil) .nil) (.cons (.ifs (.and (.cmp .eq (.var 0) (.cst (.str [115, 112, 114, 101, 97, 100, 32, 98, 101, 104, 105, 110, 100]))) (.cmp .eq (.sub (.var 2) (.cst (.int 0))) (.cst (.str [111, 114])))) (.cons (.ret (.tup (.cons (.cst (.str [111, 114])) (.cons (.tup (.cons (.cst (.str [116, 104, 101, 110])) (.cons (.sub (.var 2) (.cst (.int 1))) (.cons (.var 3) .nil)))) (.cons (.tup (.cons (.cst (.str [116, 104, 101, 110])) (.cons (.sub (.var 2) (.cst (.int 2))) (.cons (.var 3) .nil)))) .nil))))) .nil) .nil) (.cons (.ret (.cst .non)) .nil)))))))))))⟩
def f453_L_as_rule : Def := ⟨3, 6, (.cons (.ifs (.cmp .eq (.var 0) (.cst (.str [103, 97, 116, 104, 101, 114, 101, 100]))) (.cons (.par [3, 4] (.cons (.never) (.cons (.never) .nil))) (.cons (.ret (.and (.cmp .eq (.comp (.var 5) (.name 5) (.val (.var 3)) (.yes (.cmp .notin (.var 5) (.var 4))) [5]) (.lst .nil)) (.cmp .eq (.comp (.var 5) (.name 5) (.val (.var 4)) (.yes (.cmp .notin (.var 5) (.var 3))) [5]) (.lst .nil)))) .nil)) .nil) (.cons (.ret (.and (.isi (.var 0) [.str]) (.cmp .eq (.call 44 (.cons (.var 0) (.cons (.var 1) .nil))) (.var 2)))) .nil))⟩
def f104_L_numbers : Def := ⟨2, 3, (.cons (.ret (.cmp .eq (.comp (.var 2) (.name 2) (.val (.var 0)) (.yes (.or (.not (.call 73 (.cons (.var 2) .nil))) (.or (.cmp .lt (.var 2) (.cst (.int 0))) (.cmp .ge (.var 2) (.var 1))))) [2]) (.lst .nil))) .nil)⟩
def f454_L_holds : Def := ⟨5, 10, (.cons (.ifs (.or (.not (.isi (.var 2) [.tup])) (.or (.cmp .eq (.var 2) (.tup .nil)) (.not (.isi (.sub (.var 2) (.cst (.int 0))) [.str])))) (.cons (.ret (.cst (.bl false))) .nil) .nil) (.cons (.par [6, 7] (.cons (.sub (.var 2) (.cst (.int 0))) (.cons (.slc (.var 2) (.yes (.cst (.int 1))) .no) .nil))) (.cons (.ifs (.cmp .eq (.var 6) (.cst (.str [114, 117, 108, 101]))) (.cons (.ret (.and (.cmp .eq (.blt .len (.cons (.var 7) .nil)) (.cst (.int 1))) (.call 453 (.cons (.sub (.var 7) (.cst (.int 0))) (.cons (.var 0) (.cons (.var 1) .nil)))))) .nil) .nil) (.cons (.ifs (.cmp .eq (.var 6) (.cst (.str [115, 97, 109, 101]))) (.cons (.ret (.and (.cmp .eq (.var 7) (.tup .nil)) (.cmp .eq (.var 0) (.var 1)))) .nil) .nil) (.cons (.ifs (.cmp .eq (.var 6) (.cst (.str [112, 97, 105, 114, 115]))) (.cons (.ret (.and (.cmp .eq (.blt .len (.cons (.var 7) .nil)) (.cst (.int 1))) (.never))) .nil) .nil) (.cons (.ifs (.cmp .eq (.var 6) (.cst (.str [116, 111, 108, 100]))) (.cons (.ifs (.or (.cmp .ne (.blt .len (.cons (.var 7) .nil)) (.cst (.int 1))) (.not (.call 104 (.cons (.var 7) (.cons (.blt .len (.cons (.var 4) .nil)) .nil))))) (.cons (.ret (.cst (.bl false))) .nil) .nil) (.cons (.ret (.and (.cmp .eq (.sub (.var 4) (.sub (.var 7) (.cst (.int 0)))) (.var 0)) (.cmp .eq (.var 1) (.tup (.cons (.cst (.str [110, 111, 110, 101])) .nil))))) .nil)) .nil) (.cons (.ifs (.cmp .notin (.var 6) (.lst (.cons (.cst (.str [116, 117, 114, 110, 101, 100])) (.cons (.cst (.str [99, 104, 97, 105, 110, 101, 100])) (.cons (.cst (.str [111, 114])) (.cons (.cst (.str [116, 104, 101, 110])) (.cons (.cst (.str [115, 116, 97, 114])) .nil))))))) (.cons (.ret (.cst (.bl false))) .nil) .nil) (.cons (.ifs (.or (.cmp .ne (.blt .len (.cons (.var 7) .nil)) (.sub (.lst (.cons (.cst (.int 1)) (.cons (.cst (.int 2)) .nil))) (.blt .int (.cons (.cmp .isin (.var 6) (.lst (.cons (.cst (.str [99, 104, 97, 105, 110, 101, 100])) (.cons (.cst (.str [111, 114])) (.cons (.cst (.str [116, 104, 101, 110])) .nil))))) .nil)))) (.not (.call 104 (.cons (.var 7) (.cons (.blt .len (.cons (.var 3) .nil)) .nil))))) (.cons (.ret (.cst (.bl false))) .nil) .nil) (.cons (.asg (.name 5) (.comp (.tup (.cons (.sub (.sub (.var 3) (.var 8)) (.cst (.int 0))) (.cons (.sub (.sub (.var 3) (.var 8)) (.cst (.int 1))) .nil))) (.name 8) (.val (.var 7)) .no [8])) (.cons (.ifs (.cmp .eq (.var 6) (.cst (.str [116, 117, 114, 110, 101, 100]))) (.cons (.ret (.cmp .eq (.sub (.var 5) (.cst (.int 0))) (.tup (.cons (.var 1) (.cons (.var 0) .nil))))) .nil) .nil) (.cons (.ifs (.cmp .eq (.var 6) (.cst (.str [99, 104, 97, 105, 110, 101, 100]))) (.cons (.ret (.and (.cmp .eq (.sub (.sub (.var 5) (.cst (.int 0))) (.cst (.int 0))) (.var 0)) (.and (.cmp .eq (.sub (.sub (.var 5) (.cst (.int 0))) (.cst (.int 1))) (.sub (.sub (.var 5) (.cst (.int 1))) (.cst (.int 0)))) (.cmp .eq (.sub (.sub (.var 5) (.cst (.int 1))) (.cst (.int 1))) (.var 1))))) .nil) .nil) (.cons (.ifs (.cmp .ne (.bin .add (.tup (.cons (.var 6) .nil)) (.blt .tuple (.cons (.comp (.sub (.var 9) (.cst (.int 0))) (.name 9) (.val (.var 5)) .no [9]) .nil))) (.var 0)) (.cons (.ret (.cst (.bl false))) .nil) .nil) (.cons (.ret (.cmp .eq (.bin .add (.tup (.cons (.var 6) .nil)) (.blt .tuple (.cons (.comp (.sub (.var 9) (.cst (.int 1))) (.name 9) (.val (.var 5)) .no [9]) .nil))) (.var 1))) .nil)))))))))))))⟩
def f455_L_lines : Def := ⟨4, 6, (.cons (.ifs (.or (.not (.isi (.var 0) [.lst])) (.cmp .eq (.var 0) (.lst .nil))) (.cons (.ret (.cst (.bl false))) .nil) .nil) (.cons (.asg (.name 4) (.newL .nil)) (.cons (.fors (.name 5) (.val (.var 0)) (.cons (.ifs (.or (.not (.isi (.var 5) [.tup])) (.cmp .ne (.blt .len (.cons (.var 5) .nil)) (.cst (.int 3)))) (.cons (.ret (.cst (.bl false))) .nil) .nil) (.cons (.ifs (.or (.not (.call 22 (.cons (.sub (.var 5) (.cst (.int 0))) .nil))) (.not (.call 22 (.cons (.sub (.var 5) (.cst (.int 1))) .nil)))) (.cons (.ret (.cst (.bl false))) .nil) .nil) (.cons (.ifs (.not (.call 454 (.cons (.sub (.var 5) (.cst (.int 0))) (.cons (.sub (.var 5) (.cst (.int 1))) (.cons (.sub (.var 5) (.cst (.int 2))) (.cons (.var 4) (.cons (.var 3) .nil))))))) (.cons (.ret (.cst (.bl false))) .nil) .nil) (.cons (.exp (.mth .append (.var 4) (.cons (.var 5) .nil))) .nil))))) (.cons (.ret (.and (.cmp .eq (.sub (.sub (.var 4) (.neg (.cst (.int 1)))) (.cst (.int 0))) (.var 1)) (.cmp .eq (.sub (.sub (.var 4) (.neg (.cst (.int 1)))) (.cst (.int 1))) (.var 2)))) .nil))))⟩
def f107_L_odd_lots : Def := ⟨2, 16, (.cons (.asg (.name 2) (.tup (.cons (.cst (.str [101, 109, 112, 116, 121])) .nil))) (.cons (.par [6, 7] (.cons (.tup (.cons (.cst (.str [116, 104, 101, 110])) (.cons (.var 2) (.cons (.var 0) .nil)))) (.cons (.tup (.cons (.cst (.str [116, 104, 101, 110])) (.cons (.var 2) (.cons (.var 1) .nil)))) .nil))) (.cons (.asg (.name 3) (.lst (.cons (.tup (.cons (.var 6) (.cons (.var 0) (.cons (.tup (.cons (.cst (.str [114, 117, 108, 101])) (.cons (.cst (.str [101, 109, 112, 116, 121, 32, 97, 104, 101, 97, 100])) .nil))) .nil)))) (.cons (.tup (.cons (.var 7) (.cons (.var 1) (.cons (.tup (.cons (.cst (.str [114, 117, 108, 101])) (.cons (.cst (.str [101, 109, 112, 116, 121, 32, 97, 104, 101, 97, 100])) .nil))) .nil)))) (.cons (.tup (.cons (.var 0) (.cons (.var 6) (.cons (.tup (.cons (.cst (.str [116, 117, 114, 110, 101, 100])) (.cons (.cst (.int 0)) .nil))) .nil)))) .nil))))) (.cons (.asg (.name 4) (.newL (.cons (.tup (.cons (.var 0) (.cons (.var 7) (.cons (.tup (.cons (.cst (.str [116, 117, 114, 110, 101, 100])) (.cons (.cst (.int 0)) .nil))) .nil)))) (.cons (.tup (.cons (.var 1) (.cons (.var 6) (.cons (.tup (.cons (.cst (.str [116, 117, 114, 110, 101, 100])) (.cons (.cst (.int 0)) .nil))) .nil)))) (.cons (.tup (.cons (.var 6) (.cons (.var 0) (.cons (.tup (.cons (.cst (.str [116, 117, 114, 110, 101, 100])) (.cons (.cst (.int 0)) .nil))) .nil)))) (.cons (.tup (.cons (.var 7) (.cons (.var 6) (.cons (.tup (.cons (.cst (.str [99, 104, 97, 105, 110, 101, 100])) (.cons (.cst (.int 0)) (.cons (.cst (.int 2)) .nil)))) .nil)))) .nil)))))) (.cons (.asg (.name 4) (.newP (.var 4) (.lst (.cons (.tup (.cons (.var 6) (.cons (.var 7) (.cons (.tup (.cons (.cst (.str [99, 104, 97, 105, 110, 101, 100])) (.cons (.cst (.int 0)) (.cons (.cst (.int 2)) .nil)))) .nil)))) (.cons (.tup (.cons (.var 6) (.cons (.var 1) (.cons (.tup (.cons (.cst (.str [99, 104, 97, 105, 110, 101, 100])) (.cons (.cst (.int 0)) (.cons (.cst (.int 1)) .nil)))) .nil)))) (.cons (.tup (.cons (.tup (.cons (.cst (.str [115, 116, 97, 114])) (.cons (.var 7) .nil))) (.cons (.tup (.cons (.cst (.str [115, 116, 97, 114])) (.cons (.var 0) .nil))) (.cons (.tup (.cons (.cst (.str [115, 116, 97, 114])) (.cons (.cst (.int 0)) .nil))) .nil)))) .nil)))))) (.cons (.exp (.mth .append (.var 4) (.cons (.tup (.cons (.tup (.cons (.cst (.str [115, 116, 97, 114])) (.cons (.var 6) .nil))) (.cons (.tup (.cons (.cst (.str [115, 116, 97, 114])) (.cons (.var 1) .nil))) (.cons (.tup (.cons (.cst (.str [115, 116, 97, 114])) (.cons (.cst (.int 0)) .nil))) .nil)))) .nil))) (.cons (.fors (.tup [8, 9]) (.val (.lst (.cons (.tup (.cons (.cst (.str [111, 114])) (.cons (.cst (.str [116, 104, 101, 110])) .nil))) (.cons (.tup (.cons (.cst (.str [116, 104, 101, 110])) (.cons (.cst (.str [111, 114])) .nil))) .nil)))) (.cons (.par [11, 12] (.cons (.tup (.cons (.var 8) (.cons (.var 6) (.cons (.var 7) .nil)))) (.cons (.tup (.cons (.var 8) (.cons (.var 0) (.cons (.var 1) .nil)))) .nil))) (.cons (.asg (.name 10) (.lst (.cons (.tup (.cons (.tup (.cons (.var 8) (.cons (.var 0) (.cons (.var 7) .nil)))) (.cons (.var 12) .nil))) (.cons (.tup (.cons (.tup (.cons (.var 8) (.cons (.var 6) (.cons (.var 1) .nil)))) (.cons (.var 12) .nil))) (.cons (.tup (.cons (.var 11) (.cons (.tup (.cons (.var 8) (.cons (.var 1) (.cons (.var 1) .nil)))) .nil))) (.cons (.tup (.cons (.var 11) (.cons (.tup (.cons (.var 8) (.cons (.var 0) (.cons (.var 0) .nil)))) .nil))) .nil)))))) (.cons (.asg (.name 10) (.bin .add (.var 10) (.lst (.cons (.tup (.cons (.tup (.cons (.var 8) (.cons (.var 7) (.cons (.var 6) .nil)))) (.cons (.var 12) .nil))) (.cons (.tup (.cons (.var 11) (.cons (.tup (.cons (.var 8) (.cons (.var 1) (.cons (.var 0) .nil)))) .nil))) (.cons (.tup (.cons (.tup (.cons (.var 9) (.cons (.var 6) (.cons (.var 7) .nil)))) (.cons (.var 12) .nil))) (.cons (.tup (.cons (.var 11) (.cons (.tup (.cons (.var 9) (.cons (.var 0) (.cons (.var 1) .nil)))) .nil))) .nil))))))) (.cons (.asg (.name 4) (.newP (.var 4) (.comp (.tup (.cons (.var 14) (.cons (.var 15) (.cons (.tup (.cons (.var 8) (.cons (.cst (.int 0)) (.cons (.cst (.int 1)) .nil)))) .nil)))) (.tup [14, 15]) (.val (.var 10)) .no [14, 15]))) .nil))))) (.cons (.asg (.name 5) (.comp (.bin .add (.var 3) (.lst (.cons (.var 13) (.cons (.tup (.cons (.var 0) (.cons (.var 0) (.cons (.tup (.cons (.cst (.str [115, 97, 109, 101])) .nil)) .nil)))) .nil)))) (.name 13) (.val (.var 4)) .no [13])) (.cons (.ret (.bin .add (.var 5) (.lst (.cons (.lst (.cons (.tup (.cons (.var 0) (.cons (.var 0) (.cons (.lst (.cons (.cst (.str [115, 97, 109, 101])) .nil)) .nil)))) .nil)) (.cons (.lst (.cons (.lst (.cons (.var 0) (.cons (.var 0) (.cons (.tup (.cons (.cst (.str [115, 97, 109, 101])) .nil)) .nil)))) .nil)) (.cons (.bin .add (.var 3) (.lst (.cons (.tup (.cons (.var 6) (.cons (.var 6) (.cons (.tup (.cons (.cst (.str [99, 104, 97, 105, 110, 101, 100])) (.cons (.cst (.int 0)) (.cons (.cst (.int 2)) (.cons (.cst (.int 0)) .nil))))) .nil)))) (.cons (.tup (.cons (.var 0) (.cons (.var 0) (.cons (.tup (.cons (.cst (.str [115, 97, 109, 101])) .nil)) .nil)))) .nil)))) .nil)))))) .nil)))))))))⟩
def f456_L_good : Def := ⟨4, 7, (.cons (.asg (.name 4) (.blt .repr (.cons (.lst (.cons (.var 0) (.cons (.var 3) .nil))) .nil))) (.cons (.asg (.name 5) (.call 452 (.cons (.var 0) (.cons (.var 1) (.cons (.var 2) (.cons (.var 3) .nil)))))) (.cons (.asg (.name 6) (.call 455 (.cons (.var 0) (.cons (.var 1) (.cons (.var 2) (.cons (.var 3) .nil)))))) (.cons (.ret (.and (.isi (.var 5) [.bool]) (.and (.cmp .eq (.var 5) (.var 6)) (.cmp .eq (.blt .repr (.cons (.lst (.cons (.var 0) (.cons (.var 3) .nil))) .nil)) (.var 4))))) .nil))))⟩
def f109_L_right_lots : Def := ⟨2, 8, (.cons (.asg (.name 2) (.tup (.cons (.cst (.str [101, 109, 112, 116, 121])) .nil))) (.cons (.par [5, 6] (.cons (.tup (.cons (.cst (.str [116, 104, 101, 110])) (.cons (.var 2) (.cons (.var 0) .nil)))) (.cons (.tup (.cons (.cst (.str [116, 104, 101, 110])) (.cons (.var 2) (.cons (.var 1) .nil)))) .nil))) (.cons (.asg (.name 3) (.lst (.cons (.tup (.cons (.var 5) (.cons (.var 0) (.cons (.tup (.cons (.cst (.str [114, 117, 108, 101])) (.cons (.cst (.str [101, 109, 112, 116, 121, 32, 97, 104, 101, 97, 100])) .nil))) .nil)))) (.cons (.tup (.cons (.var 6) (.cons (.var 1) (.cons (.tup (.cons (.cst (.str [114, 117, 108, 101])) (.cons (.cst (.str [101, 109, 112, 116, 121, 32, 97, 104, 101, 97, 100])) .nil))) .nil)))) (.cons (.tup (.cons (.var 0) (.cons (.var 5) (.cons (.tup (.cons (.cst (.str [116, 117, 114, 110, 101, 100])) (.cons (.cst (.int 0)) .nil))) .nil)))) .nil))))) (.cons (.asg (.name 4) (.lst (.cons (.tup (.cons (.var 5) (.cons (.var 5) (.cons (.tup (.cons (.cst (.str [99, 104, 97, 105, 110, 101, 100])) (.cons (.cst (.int 0)) (.cons (.cst (.int 2)) .nil)))) .nil)))) (.cons (.tup (.cons (.var 0) (.cons (.var 0) (.cons (.tup (.cons (.cst (.str [99, 104, 97, 105, 110, 101, 100])) (.cons (.cst (.int 2)) (.cons (.cst (.int 0)) .nil)))) .nil)))) (.cons (.tup (.cons (.tup (.cons (.cst (.str [115, 116, 97, 114])) (.cons (.var 5) .nil))) (.cons (.tup (.cons (.cst (.str [115, 116, 97, 114])) (.cons (.var 0) .nil))) (.cons (.tup (.cons (.cst (.str [115, 116, 97, 114])) (.cons (.cst (.int 0)) .nil))) .nil)))) .nil))))) (.cons (.asg (.name 4) (.bin .add (.var 4) (.lst (.cons (.tup (.cons (.tup (.cons (.cst (.str [111, 114])) (.cons (.var 5) (.cons (.var 6) .nil)))) (.cons (.tup (.cons (.cst (.str [111, 114])) (.cons (.var 0) (.cons (.var 1) .nil)))) (.cons (.tup (.cons (.cst (.str [111, 114])) (.cons (.cst (.int 0)) (.cons (.cst (.int 1)) .nil)))) .nil)))) (.cons (.tup (.cons (.tup (.cons (.cst (.str [116, 104, 101, 110])) (.cons (.var 6) (.cons (.var 5) .nil)))) (.cons (.tup (.cons (.cst (.str [116, 104, 101, 110])) (.cons (.var 1) (.cons (.var 0) .nil)))) (.cons (.tup (.cons (.cst (.str [116, 104, 101, 110])) (.cons (.cst (.int 1)) (.cons (.cst (.int 0)) .nil)))) .nil)))) .nil))))) (.cons (.ret (.comp (.bin .add (.var 3) (.lst (.cons (.var 7) .nil))) (.name 7) (.val (.bin .add (.var 4) (.lst (.cons (.tup (.cons (.tup (.cons (.cst (.str [111, 114])) (.cons (.var 0) (.cons (.var 0) .nil)))) (.cons (.tup (.cons (.cst (.str [111, 114])) (.cons (.var 5) (.cons (.var 5) .nil)))) (.cons (.tup (.cons (.cst (.str [111, 114])) (.cons (.cst (.int 2)) (.cons (.cst (.int 2)) .nil)))) .nil)))) (.cons (.tup (.cons (.var 1) (.cons (.var 6) (.cons (.tup (.cons (.cst (.str [116, 117, 114, 110, 101, 100])) (.cons (.cst (.int 1)) .nil))) .nil)))) .nil))))) .no [7])) .nil))))))⟩
def f457_L_told_good : Def := ⟨2, 6, (.cons (.asg (.name 2) (.tup (.cons (.cst (.str [110, 111, 110, 101])) .nil))) (.cons (.asg (.name 3) (.lst (.cons (.tup (.cons (.cst (.int 0)) (.cons (.lst (.cons (.var 1) .nil)) .nil))) (.cons (.tup (.cons (.cst (.int 0)) (.cons (.lst .nil) .nil))) (.cons (.tup (.cons (.cst (.bl false)) (.cons (.lst (.cons (.var 0) .nil)) .nil))) (.cons (.tup (.cons (.cst (.int 1)) (.cons (.lst (.cons (.var 1) (.cons (.var 0) .nil))) .nil))) (.cons (.tup (.cons (.cst (.int 1)) (.cons (.lst (.cons (.var 0) .nil)) .nil))) (.cons (.tup (.cons (.cst (.int 0)) (.cons (.lst (.cons (.var 0) (.cons (.var 1) .nil))) .nil))) (.cons (.tup (.cons (.neg (.cst (.int 1))) (.cons (.lst (.cons (.var 0) .nil)) .nil))) (.cons (.tup (.cons (.cst (.int 0)) (.cons (.tup (.cons (.var 0) .nil)) .nil))) (.cons (.tup (.cons (.cst (.bl true)) (.cons (.lst (.cons (.var 1) (.cons (.var 0) .nil))) .nil))) .nil))))))))))) (.cons (.fors (.tup [4, 5]) (.val (.bin .add (.var 3) (.lst (.cons (.tup (.cons (.cst (.int 0)) (.cons (.tup (.cons (.var 1) (.cons (.var 0) .nil))) .nil))) (.cons (.tup (.cons (.cst (.str [48])) (.cons (.lst (.cons (.var 0) .nil)) .nil))) (.cons (.tup (.cons (.cst .non) (.cons (.lst (.cons (.var 0) .nil)) .nil))) .nil)))))) (.cons (.ifs (.not (.call 456 (.cons (.lst (.cons (.tup (.cons (.var 0) (.cons (.var 2) (.cons (.tup (.cons (.cst (.str [116, 111, 108, 100])) (.cons (.var 4) .nil))) .nil)))) .nil)) (.cons (.var 0) (.cons (.var 2) (.cons (.var 5) .nil)))))) (.cons (.ret (.cst (.bl false))) .nil) .nil) (.cons (.ifs (.not (.call 456 (.cons (.lst (.cons (.tup (.cons (.var 0) (.cons (.var 0) (.cons (.tup (.cons (.cst (.str [115, 97, 109, 101])) .nil)) .nil)))) (.cons (.tup (.cons (.var 2) (.cons (.var 0) (.cons (.tup (.cons (.cst (.str [116, 111, 108, 100])) (.cons (.var 4) .nil))) .nil)))) .nil))) (.cons (.var 2) (.cons (.var 0) (.cons (.var 5) .nil)))))) (.cons (.ret (.cst (.bl false))) .nil) .nil) .nil))) (.cons (.ret (.cst (.bl true))) .nil))))⟩
def f0_k13 : Def := ⟨1, 9, (.cons (.fors (.name 1) (.range1 (.blt .max (.cons (.cst (.int 2)) (.cons (.blt .min (.cons (.blt .len (.cons (.var 0) .nil)) (.cons (.cst (.int 5)) .nil))) .nil)))) (.cons (.asg (.name 3) (.call 12 (.cons (.var 0) (.cons (.var 1) .nil)))) (.cons (.asg (.name 4) (.call 14 (.cons (.var 3) .nil))) (.cons (.par [6, 7] (.cons (.call 17 (.cons (.var 3) (.cons (.var 4) (.cons (.cst (.int 2)) .nil)))) (.cons (.call 17 (.cons (.var 3) (.cons (.var 4) (.cons (.cst (.int 2)) .nil)))) .nil))) (.cons (.ifs (.cmp .eq (.var 6) (.var 7)) (.cons (.asg (.name 7) (.tup (.cons (.cst (.str [115, 116, 97, 114])) (.cons (.var 7) .nil)))) .nil) .nil) (.cons (.fors (.name 5) (.val (.call 107 (.cons (.var 6) (.cons (.var 7) .nil)))) (.cons (.ifs (.not (.call 456 (.cons (.var 5) (.cons (.var 6) (.cons (.var 6) (.cons (.tup .nil) .nil)))))) (.cons (.ret (.cst (.bl false))) .nil) .nil) .nil)) (.cons (.fors (.name 5) (.val (.call 109 (.cons (.var 6) (.cons (.var 7) .nil)))) (.cons (.par [2, 8] (.cons (.sub (.sub (.var 5) (.neg (.cst (.int 1)))) (.cst (.int 0))) (.cons (.sub (.sub (.var 5) (.neg (.cst (.int 1)))) (.cst (.int 1))) .nil))) (.cons (.ifs (.or (.not (.call 456 (.cons (.var 5) (.cons (.var 2) (.cons (.var 8) (.cons (.tup .nil) .nil)))))) (.notB true (.callD 452 (.cons (.var 5) (.cons (.var 2) (.cons (.var 8) .nil)))))) (.cons (.ret (.cst (.bl false))) .nil) .nil) (.cons (.ifs (.and (.cmp .ne (.var 2) (.var 8)) (.notB false (.callD 452 (.cons (.var 5) (.cons (.var 8) (.cons (.var 2) .nil)))))) (.cons (.ret (.cst (.bl false))) .nil) .nil) .nil)))) (.cons (.ifs (.not (.call 457 (.cons (.var 6) (.cons (.var 7) .nil)))) (.cons (.ret (.cst (.bl false))) .nil) .nil) .nil)))))))) (.cons (.asg (.name 2) (.tup (.cons (.cst (.str [115, 105, 103, 110])) (.cons (.cst (.str [97])) .nil)))) (.cons (.ret (.cmp .eq (.comp (.var 5) (.name 5) (.val (.call 107 (.cons (.var 2) (.cons (.tup (.cons (.cst (.str [115, 105, 103, 110])) (.cons (.cst (.str [98])) .nil))) .nil)))) (.yes (.callD 452 (.cons (.var 5) (.cons (.var 2) (.cons (.var 2) .nil))))) [5]) (.lst .nil))) .nil)))⟩
end SL
set_option Elab.async false
set_option linter.all false
set_option maxRecDepth 100000
set_option maxHeartbeats 0
namespace SL.k13
open PySem PySem.Spec PyProof.Rows L2 SL
def top (i : Nat) : Stmt := PySem.Challenge.pw_starlines_k13_lines_with_wrong_ends.main.body.getD i (.Pass ⟨0, 0, 0, 0⟩)
def d_f49_is_whole : Fd := ⟨"is_whole", top 8, 49, ["thing"], ["thing"], f49_is_whole, false⟩
def d_f50_is_below : Fd := ⟨"is_below", top 9, 50, ["thing", "many"], ["thing", "many"], f50_is_below, false⟩
def d_f1_is_right_word : Fd := ⟨"is_right_word", top 10, 1, ["thing", "sign"], ["thing"], f1_is_right_word, false⟩
def d_f2_is_right_pattern : Fd := ⟨"is_right_pattern", top 11, 2, ["thing", "part"], ["thing"], f2_is_right_pattern, false⟩
def d_f3_look_at_pattern : Fd := ⟨"look_at_pattern", top 12, 3, ["pattern"], ["pattern"], f3_look_at_pattern, false⟩
def d_f51_look_at_told : Fd := ⟨"look_at_told", top 13, 51, ["told", "pattern"], ["told"], f51_look_at_told, false⟩
def d_f32_behind_by : Fd := ⟨"behind_by", top 17, 32, ["name", "x", "y"], ["name", "x", "y"], f32_behind_by, false⟩
def d_f33_star_by : Fd := ⟨"star_by", top 18, 33, ["name", "x"], ["name", "x"], f33_star_by, false⟩
def d_f448_is_right_rule : Fd := ⟨"is_right_rule", top 19, 448, ["name", "left", "right"], ["name", "left", "right"], f448_is_right_rule, false⟩
def d_f53_are_numbers : Fd := ⟨"are_numbers", top 21, 53, ["numbers", "many", "number"], ["numbers", "many"], f53_are_numbers, false⟩
def d_f57_by_told : Fd := ⟨"by_told", top 25, 57, ["number", "told"], ["number", "told"], f57_by_told, false⟩
def d_f58_by_lines : Fd := ⟨"by_lines", top 26, 58, ["word", "numbers", "lines", "ends", "number", "end"], ["word", "numbers", "lines"], f58_by_lines, false⟩
def d_f449_concluded : Fd := ⟨"concluded", top 27, 449, ["reason", "lines", "told"], ["reason", "lines", "told"], f449_concluded, false⟩
def d_f450_holds : Fd := ⟨"holds", top 28, 450, ["left", "right", "reason", "lines", "told"], ["left", "right", "reason", "lines", "told"], f450_holds, false⟩
def d_f451_are_lines : Fd := ⟨"are_lines", top 29, 451, ["thing", "told", "lines", "line", "left", "right", "reason"], ["thing", "told"], f451_are_lines, false⟩
def d_f452_is_lines : Fd := ⟨"is_lines", top 30, 452, ["thing", "left", "right", "told"], ["thing", "left", "right", "told"], f452_is_lines, true⟩
def d_f11_L_mixed : Fd := ⟨"_law_mixed", top 32, 11, ["_law_cell", "_law_k", "_law_number"], ["_law_cell", "_law_k"], f11_L_mixed, false⟩
def d_f12_L_pile : Fd := ⟨"_law_pile", top 33, 12, ["_law_script", "_law_k", "_law_cell", "_law_found", "_law_j"], ["_law_script", "_law_k"], f12_L_pile, false⟩
def d_f13_L_take : Fd := ⟨"_law_take", top 34, 13, ["_law_pile_here", "_law_size", "_law_digit"], ["_law_pile_here", "_law_size"], f13_L_take, false⟩
def d_f14_L_letters : Fd := ⟨"_law_letters", top 35, 14, ["_law_pile_here"], ["_law_pile_here"], f14_L_letters, false⟩
def d_f15_L_leaf : Fd := ⟨"_law_leaf", top 36, 15, ["_law_pile_here", "_law_letters_here", "_law_room", "_law_way"], ["_law_pile_here", "_law_letters_here", "_law_room"], f15_L_leaf, false⟩
def d_f16_L_pattern : Fd := ⟨"_law_pattern", top 37, 16, ["_law_pile_here", "_law_letters_here", "_law_room", "_law_depth", "_law_way", "_law_one"], ["_law_pile_here", "_law_letters_here", "_law_room", "_law_depth"], f16_L_pattern, false⟩
def d_f17_L_drawn : Fd := ⟨"_law_drawn", top 38, 17, ["_law_pile_here", "_law_letters_here", "_law_most"], ["_law_pile_here", "_law_letters_here", "_law_most"], f17_L_drawn, false⟩
def d_f73_L_whole : Fd := ⟨"_law_whole", top 40, 73, ["_law_thing"], ["_law_thing"], f73_L_whole, false⟩
def d_f21_L_is_word : Fd := ⟨"_law_is_word", top 41, 21, ["_law_thing", "_law_sign"], ["_law_thing"], f21_L_is_word, false⟩
def d_f22_L_is_pattern : Fd := ⟨"_law_is_pattern", top 42, 22, ["_law_thing"], ["_law_thing"], f22_L_is_pattern, false⟩
def d_f44_L_side : Fd := ⟨"_law_side", top 44, 44, ["_law_name", "_law_x", "_law_one", "_law_other"], ["_law_name", "_law_x"], f44_L_side, false⟩
def d_f453_L_as_rule : Fd := ⟨"_law_as_rule", top 45, 453, ["_law_name", "_law_one", "_law_other", "_law_x", "_law_y", "_law_part"], ["_law_name", "_law_one", "_law_other"], f453_L_as_rule, false⟩
def d_f104_L_numbers : Fd := ⟨"_law_numbers", top 48, 104, ["_law_some", "_law_many", "_law_k"], ["_law_some", "_law_many"], f104_L_numbers, false⟩
def d_f454_L_holds : Fd := ⟨"_law_holds", top 49, 454, ["_law_one", "_law_other", "_law_reason", "_law_ahead", "_law_nothings", "_law_ends", "_law_word", "_law_some", "_law_k", "_law_end"], ["_law_one", "_law_other", "_law_reason", "_law_ahead", "_law_nothings"], f454_L_holds, false⟩
def d_f455_L_lines : Fd := ⟨"_law_lines", top 50, 455, ["_law_thing", "_law_one", "_law_other", "_law_nothings", "_law_ahead", "_law_line"], ["_law_thing", "_law_one", "_law_other", "_law_nothings"], f455_L_lines, false⟩
def d_f107_L_odd_lots : Fd := ⟨"_law_odd_lots", top 51, 107, ["_law_a", "_law_b", "_law_empty", "_law_base", "_law_odd", "_law_found", "_law_p", "_law_q", "_law_word", "_law_far", "_law_lots", "_law_one", "_law_other", "_law_line", "_law_x", "_law_y"], ["_law_a", "_law_b"], f107_L_odd_lots, false⟩
def d_f456_L_good : Fd := ⟨"_law_good", top 52, 456, ["_law_lines_here", "_law_one", "_law_other", "_law_nothings", "_law_kept", "_law_found", "_law_due"], ["_law_lines_here", "_law_one", "_law_other", "_law_nothings"], f456_L_good, false⟩
def d_f109_L_right_lots : Fd := ⟨"_law_right_lots", top 53, 109, ["_law_a", "_law_b", "_law_empty", "_law_base", "_law_lots", "_law_p", "_law_q", "_law_line"], ["_law_a", "_law_b"], f109_L_right_lots, false⟩
def d_f457_L_told_good : Fd := ⟨"_law_told_good", top 54, 457, ["_law_a", "_law_b", "_law_none", "_law_lots", "_law_k", "_law_some"], ["_law_a", "_law_b"], f457_L_told_good, false⟩
def d_f0_k13 : Fd := ⟨"law", top 55, 0, ["_law_script", "_law_k", "_law_one", "_law_pile_here", "_law_letters_here", "_law_lines_here", "_law_a", "_law_b", "_law_other"], ["_law_script"], f0_k13, false⟩
def defs : List Fd := [d_f49_is_whole, d_f50_is_below, d_f1_is_right_word, d_f2_is_right_pattern, d_f3_look_at_pattern, d_f51_look_at_told, d_f32_behind_by, d_f33_star_by, d_f448_is_right_rule, d_f53_are_numbers, d_f57_by_told, d_f58_by_lines, d_f449_concluded, d_f450_holds, d_f451_are_lines, d_f452_is_lines, d_f11_L_mixed, d_f12_L_pile, d_f13_L_take, d_f14_L_letters, d_f15_L_leaf, d_f16_L_pattern, d_f17_L_drawn, d_f73_L_whole, d_f21_L_is_word, d_f22_L_is_pattern, d_f44_L_side, d_f453_L_as_rule, d_f104_L_numbers, d_f454_L_holds, d_f455_L_lines, d_f107_L_odd_lots, d_f456_L_good, d_f109_L_right_lots, d_f457_L_told_good, d_f0_k13]
def gl : List Nat := [0, 1, 2]
def cl : List Nat := [0, 1, 4]
theorem binds : AllF BindP defs := ⟨(fun _ _ _ _ _ _ us hl => match us, hl with | [_], _ => rfl), (fun _ _ _ _ _ _ us hl => match us, hl with | [_, _], _ => rfl), (fun _ _ _ _ _ _ us hl => match us, hl with | [_], _ => rfl), (fun _ _ _ _ _ _ us hl => match us, hl with | [_], _ => rfl), (fun _ _ _ _ _ _ us hl => match us, hl with | [_], _ => rfl), (fun _ _ _ _ _ _ us hl => match us, hl with | [_], _ => rfl), (fun _ _ _ _ _ _ us hl => match us, hl with | [_, _, _], _ => rfl), (fun _ _ _ _ _ _ us hl => match us, hl with | [_, _], _ => rfl), (fun _ _ _ _ _ _ us hl => match us, hl with | [_, _, _], _ => rfl), (fun _ _ _ _ _ _ us hl => match us, hl with | [_, _], _ => rfl), (fun _ _ _ _ _ _ us hl => match us, hl with | [_, _], _ => rfl), (fun _ _ _ _ _ _ us hl => match us, hl with | [_, _, _], _ => rfl), (fun _ _ _ _ _ _ us hl => match us, hl with | [_, _, _], _ => rfl), (fun _ _ _ _ _ _ us hl => match us, hl with | [_, _, _, _, _], _ => rfl), (fun _ _ _ _ _ _ us hl => match us, hl with | [_, _], _ => rfl), ⟨by decide, fun _ _ _ _ _ _ _ us its hl h2 => match us, its, hl, h2 with | [_, _, _], [_], _, _ => ⟨_, rfl, rfl⟩, fun _ _ _ _ _ _ _ us its hl h2 => match us, its, hl, h2 with | [_, _, _, _], [_], _, _ => ⟨_, rfl, rfl⟩⟩, (fun _ _ _ _ _ _ us hl => match us, hl with | [_, _], _ => rfl), (fun _ _ _ _ _ _ us hl => match us, hl with | [_, _], _ => rfl), (fun _ _ _ _ _ _ us hl => match us, hl with | [_, _], _ => rfl), (fun _ _ _ _ _ _ us hl => match us, hl with | [_], _ => rfl), (fun _ _ _ _ _ _ us hl => match us, hl with | [_, _, _], _ => rfl), (fun _ _ _ _ _ _ us hl => match us, hl with | [_, _, _, _], _ => rfl), (fun _ _ _ _ _ _ us hl => match us, hl with | [_, _, _], _ => rfl), (fun _ _ _ _ _ _ us hl => match us, hl with | [_], _ => rfl), (fun _ _ _ _ _ _ us hl => match us, hl with | [_], _ => rfl), (fun _ _ _ _ _ _ us hl => match us, hl with | [_], _ => rfl), (fun _ _ _ _ _ _ us hl => match us, hl with | [_, _], _ => rfl), (fun _ _ _ _ _ _ us hl => match us, hl with | [_, _, _], _ => rfl), (fun _ _ _ _ _ _ us hl => match us, hl with | [_, _], _ => rfl), (fun _ _ _ _ _ _ us hl => match us, hl with | [_, _, _, _, _], _ => rfl), (fun _ _ _ _ _ _ us hl => match us, hl with | [_, _, _, _], _ => rfl), (fun _ _ _ _ _ _ us hl => match us, hl with | [_, _], _ => rfl), (fun _ _ _ _ _ _ us hl => match us, hl with | [_, _, _, _], _ => rfl), (fun _ _ _ _ _ _ us hl => match us, hl with | [_, _], _ => rfl), (fun _ _ _ _ _ _ us hl => match us, hl with | [_, _], _ => rfl), (fun _ _ _ _ _ _ us hl => match us, hl with | [_], _ => rfl), trivial⟩
theorem phis : AllF (fun F => PhiOf defs F.id = some F.d) defs := ⟨rfl, rfl, rfl, rfl, rfl, rfl, rfl, rfl, rfl, rfl, rfl, rfl, rfl, rfl, rfl, rfl, rfl, rfl, rfl, rfl, rfl, rfl, rfl, rfl, rfl, rfl, rfl, rfl, rfl, rfl, rfl, rfl, rfl, rfl, rfl, rfl, trivial⟩
theorem c_f49_is_whole : defB defs gl cl d_f49_is_whole = true := by decide +kernel
theorem c_f50_is_below : defB defs gl cl d_f50_is_below = true := by decide +kernel
theorem c_f1_is_right_word : defB defs gl cl d_f1_is_right_word = true := by decide +kernel
theorem c_f2_is_right_pattern : defB defs gl cl d_f2_is_right_pattern = true := by decide +kernel
theorem c_f3_look_at_pattern : defB defs gl cl d_f3_look_at_pattern = true := by decide +kernel
theorem c_f51_look_at_told : defB defs gl cl d_f51_look_at_told = true := by decide +kernel
theorem c_f32_behind_by : defB defs gl cl d_f32_behind_by = true := by decide +kernel
theorem c_f33_star_by : defB defs gl cl d_f33_star_by = true := by decide +kernel
theorem c_f448_is_right_rule : defB defs gl cl d_f448_is_right_rule = true := by decide +kernel
theorem c_f53_are_numbers : defB defs gl cl d_f53_are_numbers = true := by decide +kernel
theorem c_f57_by_told : defB defs gl cl d_f57_by_told = true := by decide +kernel
theorem c_f58_by_lines : defB defs gl cl d_f58_by_lines = true := by decide +kernel
theorem c_f449_concluded : defB defs gl cl d_f449_concluded = true := by decide +kernel
theorem c_f450_holds : defB defs gl cl d_f450_holds = true := by decide +kernel
theorem c_f451_are_lines : defB defs gl cl d_f451_are_lines = true := by decide +kernel
theorem c_f452_is_lines : defB defs gl cl d_f452_is_lines = true := by decide +kernel
theorem c_f11_L_mixed : defB defs gl cl d_f11_L_mixed = true := by decide +kernel
theorem c_f12_L_pile : defB defs gl cl d_f12_L_pile = true := by decide +kernel
theorem c_f13_L_take : defB defs gl cl d_f13_L_take = true := by decide +kernel
theorem c_f14_L_letters : defB defs gl cl d_f14_L_letters = true := by decide +kernel
theorem c_f15_L_leaf : defB defs gl cl d_f15_L_leaf = true := by decide +kernel
theorem c_f16_L_pattern : defB defs gl cl d_f16_L_pattern = true := by decide +kernel
theorem c_f17_L_drawn : defB defs gl cl d_f17_L_drawn = true := by decide +kernel
theorem c_f73_L_whole : defB defs gl cl d_f73_L_whole = true := by decide +kernel
theorem c_f21_L_is_word : defB defs gl cl d_f21_L_is_word = true := by decide +kernel
theorem c_f22_L_is_pattern : defB defs gl cl d_f22_L_is_pattern = true := by decide +kernel
theorem c_f44_L_side : defB defs gl cl d_f44_L_side = true := by decide +kernel
theorem c_f453_L_as_rule : defB defs gl cl d_f453_L_as_rule = true := by decide +kernel
theorem c_f104_L_numbers : defB defs gl cl d_f104_L_numbers = true := by decide +kernel
theorem c_f454_L_holds : defB defs gl cl d_f454_L_holds = true := by decide +kernel
theorem c_f455_L_lines : defB defs gl cl d_f455_L_lines = true := by decide +kernel
theorem c_f107_L_odd_lots : defB defs gl cl d_f107_L_odd_lots = true := by decide +kernel
theorem c_f456_L_good : defB defs gl cl d_f456_L_good = true := by decide +kernel
theorem c_f109_L_right_lots : defB defs gl cl d_f109_L_right_lots = true := by decide +kernel
theorem c_f457_L_told_good : defB defs gl cl d_f457_L_told_good = true := by decide +kernel
theorem c_f0_k13 : defB defs gl cl d_f0_k13 = true := by decide +kernel
theorem checks : AllF (fun F => defB defs gl cl F = true) defs := ⟨c_f49_is_whole, c_f50_is_below, c_f1_is_right_word, c_f2_is_right_pattern, c_f3_look_at_pattern, c_f51_look_at_told, c_f32_behind_by, c_f33_star_by, c_f448_is_right_rule, c_f53_are_numbers, c_f57_by_told, c_f58_by_lines, c_f449_concluded, c_f450_holds, c_f451_are_lines, c_f452_is_lines, c_f11_L_mixed, c_f12_L_pile, c_f13_L_take, c_f14_L_letters, c_f15_L_leaf, c_f16_L_pattern, c_f17_L_drawn, c_f73_L_whole, c_f21_L_is_word, c_f22_L_is_pattern, c_f44_L_side, c_f453_L_as_rule, c_f104_L_numbers, c_f454_L_holds, c_f455_L_lines, c_f107_L_odd_lots, c_f456_L_good, c_f109_L_right_lots, c_f457_L_told_good, c_f0_k13, trivial⟩
theorem law_in : d_f0_k13 ∈ defs := by simp [defs]
end SL.k13
set_option Elab.async false
set_option linter.all false
set_option maxRecDepth 100000
set_option maxHeartbeats 0
namespace SL.k13
open PySem PySem.Spec PyProof.Rows L2 SL
abbrev R : PySem.W.OpenRow := PySem.W.OpenLaw.row PySem.Challenge.rw_starlines_k13_lines_with_wrong_ends
def fn : List He.DefD := defs.map fun F => ⟨(F.nm, none), F.nm, F.nm, defArgs F.st, defBody F.st, defScope F.st, (if F.df then [.adr (dfl0 F)] else []), []⟩
def fa : List He.Fa := defs.map fun F => .glo F.nm
abbrev hk : PySem.W.Hook := He.hookX 4 fa fn [] [] (exM defs gl cl)
def ob (s : PySem.W.SharedT) : He.AlX := He.obsX 4 fa fn [] [] (exM defs gl cl) (HandSHeadRun.getT s)
theorem ob_eq (s : PySem.W.SharedT) : ob s = hk.obs s.abs := He.obsX_eq (HandSHeadRun.getT_eq s)
def names0 : List PySem.Str := ["__name__", "LinesError", "NoPattern", "NoTold", "SIGNS", "NONE", "EMPTY", "is_whole", "is_below", "is_right_word", "is_right_pattern", "look_at_pattern", "look_at_told", "parts_of", "is_gathered", "behind_by", "star_by", "is_right_rule", "opened", "are_numbers", "are_rows", "is_paired", "by_pairs", "by_told", "by_lines", "concluded", "holds", "are_lines", "is_lines", "_law_mixed"]
def names1 : List PySem.Str := ["_law_pile", "_law_take", "_law_letters", "_law_leaf", "_law_pattern", "_law_drawn", "_law_once", "_law_whole", "_law_is_word", "_law_is_pattern", "_law_parts", "_law_side", "_law_as_rule", "_law_opened", "_law_paired", "_law_numbers", "_law_holds", "_law_lines", "_law_odd_lots", "_law_good", "_law_right_lots", "_law_told_good"]
def names : List PySem.Str := names0 ++ names1
theorem run (w : World) : HandSHeadRun.RunEq R (PySem.W.view R.prog [55]) hk ob 30000 names w := by
  intro os
  kernel_rfl
theorem told {w : World} {h : Heap} {K : PySem.W.Frag} (c : He.SaysX fa fn [] [] (exM defs gl cl) w h K) : Told defs gl cl K :=
  ⟨exM_ex c.more, fun F hF => He.eqO_ok (He.SaysD.facts c.t.d (f := .glo F.nm) (List.mem_map.mpr ⟨F, hF, rfl⟩)), fun F hF => dfs_ok (He.SaysD.defs c.t.d (d := ⟨(F.nm, none), F.nm, F.nm, defArgs F.st, defBody F.st, defScope F.st, (if F.df then [.adr (dfl0 F)] else []), []⟩) (List.mem_map.mpr ⟨F, hF, rfl⟩)), fun F hF => exM_em c.more F hF⟩
end SL.k13
set_option Elab.async false
set_option linter.all false
set_option maxRecDepth 100000
set_option maxHeartbeats 1000000
/-! C0: reckoning with the pure meaning. -/
namespace SL
open PySem
/-! ### plain data -/
mutual
def toP : D → PyData
  | .non => .none
  | .bl b => .bool b
  | .int i => .int i
  | .str x => .str ⟨x.toArray⟩
  | .tup ds => .tuple (toPs ds)
  | .lst ds => .list (toPs ds)
  | .scr _ => .none
  | .ref _ => .none
  | .dct _ _ => .none
def toPs : List D → List PyData
  | [] => []
  | d :: ds => toP d :: toPs ds
end
mutual
def flat : D → Bool
  | .tup ds => flats ds
  | .lst ds => flats ds
  | .scr _ => false
  | .ref _ => false
  | .dct _ _ => false
  | _ => true
def flats : List D → Bool
  | [] => true
  | d :: ds => flat d && flats ds
end
mutual
theorem res_flat (S : Sto) : ∀ (n : Nat) (d : D), flat d = true → (toP d).depth < n → res S n d = some (toP d)
  | 0, _, _, h => by omega
  | n + 1, .non, _, _ => rfl
  | n + 1, .bl _, _, _ => rfl
  | n + 1, .int _, _, _ => rfl
  | n + 1, .str _, _, _ => rfl
  | n + 1, .scr _, h, _ => by cases h
  | n + 1, .ref _, h, _ => by cases h
  | n + 1, .dct _ _, h, _ => by cases h
  | n + 1, .tup ds, h, hd => by
    have hd' : PyData.depthAll (toPs ds) + 1 < n + 1 := hd
    unfold res
    rw [resL_flat S n ds h (by omega)]
    rfl
  | n + 1, .lst ds, h, hd => by
    have hd' : PyData.depthAll (toPs ds) + 1 < n + 1 := hd
    unfold res
    rw [resL_flat S n ds h (by omega)]
    rfl
theorem resL_flat (S : Sto) : ∀ (n : Nat) (ds : List D), flats ds = true → PyData.depthAll (toPs ds) < n → resL (res S n) ds = some (toPs ds)
  | n, [], _, _ => rfl
  | n, d :: ds, h, hd => by
    obtain ⟨h1, h2⟩ := and2 (show (flat d && flats ds) = true from h)
    have hd' : max (toP d).depth (PyData.depthAll (toPs ds)) < n := hd
    unfold resL
    rw [res_flat S n d h1 (by omega), resL_flat S n ds h2 (by omega)]
    rfl
end
/-- plain data that may be compared -/
structure Dt (d : D) : Prop where
  fl : flat d = true
  lay : (toP d).canLay0 = true
  dep : (toP d).depth ≤ 64
theorem Dt.look {d : D} (h : Dt d) (S : Sto) : look S d = some (toP d) := by
  unfold SL.look
  rw [res_flat S 70 d h.fl (by have := h.dep; omega)]
  have : fit (toP d) = true := by unfold fit; rw [h.lay, decide_eq_true h.dep]; rfl
  dsimp only
  rw [if_pos this]
theorem Dt.str {x : List Nat} (h : ∀ c ∈ x, c < 1114112) : Dt (.str x) := by
  refine ⟨rfl, ?_, Nat.zero_le _⟩
  show (⟨x.toArray⟩ : Str).cps.all (· < 0x110000) = true
  simp only [Array.all_eq_true', List.mem_toArray]
  intro c hc
  exact decide_eq_true (h c hc)
theorem Dt.codes {x : List Nat} (h : Dt (.str x)) : ∀ c ∈ x, c < 1114112 := by
  have l : (⟨x.toArray⟩ : Str).cps.all (· < 0x110000) = true := h.lay
  simp only [Array.all_eq_true', List.mem_toArray] at l
  exact fun c hc => of_decide_eq_true (l c hc)
theorem Dt.int {i : Int} : Dt (.int i) := ⟨rfl, rfl, Nat.zero_le _⟩
theorem Dt.bl {i : Bool} : Dt (.bl i) := ⟨rfl, rfl, Nat.zero_le _⟩
theorem Dt.non : Dt .non := ⟨rfl, rfl, Nat.zero_le _⟩
theorem Dt.mem {ds : List D} (fl : flats ds = true) (lay : PyData.canLayAll0 (toPs ds) = true) {m : Nat} (dep : PyData.depthAll (toPs ds) ≤ m) : ∀ d ∈ ds, flat d = true ∧ (toP d).canLay0 = true ∧ (toP d).depth ≤ m := by
  induction ds with
  | nil => intro d hd; cases hd
  | cons e r ih =>
    intro d hd
    obtain ⟨f1, f2⟩ := and2 (show (flat e && flats r) = true from fl)
    have l' : (PyData.canLay0 (toP e) && PyData.canLayAll0 (toPs r)) = true := by simpa [toPs, PyData.canLayAll0] using lay
    obtain ⟨l1, l2⟩ := and2 l'
    have dd : max (toP e).depth (PyData.depthAll (toPs r)) ≤ m := dep
    rcases List.mem_cons.mp hd with rfl | hd
    · exact ⟨f1, l1, by omega⟩
    · exact ih f2 l2 (by omega) d hd
theorem Dt.tup {ds : List D} (h : ∀ d ∈ ds, Dt d) (hd : PyData.depthAll (toPs ds) ≤ 63) : Dt (.tup ds) ∧ Dt (.lst ds) := by
  have key : flats ds = true ∧ PyData.canLayAll0 (toPs ds) = true := by
    clear hd
    induction ds with
    | nil => exact ⟨rfl, by simp [toPs, PyData.canLayAll0]⟩
    | cons e r ih =>
      obtain ⟨a, b⟩ := ih fun d hd => h d (List.mem_cons_of_mem _ hd)
      have c := h e List.mem_cons_self
      exact ⟨by show (flat e && flats r) = true; rw [c.fl, a]; rfl, by simp [toPs, PyData.canLayAll0, c.lay, b]⟩
  have d2 : PyData.depthAll (toPs ds) + 1 ≤ 64 := by omega
  exact ⟨⟨key.1, by simpa [toP, PyData.canLay0] using key.2, by simpa [toP, PyData.depth] using d2⟩, ⟨key.1, by simpa [toP, PyData.canLay0] using key.2, by simpa [toP, PyData.depth] using d2⟩⟩
theorem Dt.parts {ds : List D} (h : Dt (.tup ds)) : ∀ d ∈ ds, Dt d ∧ (toP d).depth < (toP (.tup ds)).depth := by
  have lay : PyData.canLayAll0 (toPs ds) = true := by simpa [toP, PyData.canLay0] using h.lay
  have dep : PyData.depthAll (toPs ds) + 1 ≤ 64 := by simpa [toP, PyData.depth] using h.dep
  intro d hd
  obtain ⟨a, b, c⟩ := Dt.mem h.fl lay (Nat.le_refl _) d hd
  exact ⟨⟨a, b, by omega⟩, by simp only [toP, PyData.depth]; omega⟩

/-! ### comparisons -/
theorem str_beq (a b : List Nat) : ((⟨a.toArray⟩ : Str) == ⟨b.toArray⟩) = decide (a = b) := by
  by_cases h : a = b
  · subst h; simp
  · have : (⟨a.toArray⟩ : Str) ≠ ⟨b.toArray⟩ := fun e => h (by
      have := congrArg (fun z : Str => z.cps.toList) e
      simpa using this)
    simp [h, this]
theorem eqD_str' (a b : List Nat) (S : Sto) : eqD S (.str a) (.str b) = some (decide (a = b)) := rfl
theorem eqD_dt {a b : D} (ha : Dt a) (hb : Dt b) (S : Sto) : eqD S a b = some (PyData.eqv (toP a) (toP b)) := by
  have e : eqLook S a b = some (PyData.eqv (toP a) (toP b)) := by
    unfold eqLook
    rw [ha.look, hb.look]
  unfold eqD
  cases q : eqStr a b with
  | none => exact e
  | some r =>
    obtain ⟨x, y, rfl, rfl, rfl⟩ := eqStr_shape q
    simp only [toP, PyData.eqv, str_beq]
theorem eqD_str {a b : List Nat} (ha : Dt (.str a)) (hb : Dt (.str b)) (S : Sto) : eqD S (.str a) (.str b) = some (decide (a = b)) := rfl
theorem eqD_int (i j : Int) (S : Sto) : eqD S (.int i) (.int j) = some (decide (i = j)) := by
  rw [eqD_dt Dt.int Dt.int]
  simp only [toP, PyData.eqv]
  rfl
theorem resL_look {ds : List D} (h : ∀ d ∈ ds, Dt d) (S : Sto) : resL (look S) ds = some (toPs ds) := by
  induction ds with
  | nil => rfl
  | cons d ds ih =>
    unfold resL
    rw [(h d List.mem_cons_self).look S, ih fun e he => h e (List.mem_cons_of_mem _ he)]
    rfl
theorem inD_tup {a : D} {ds : List D} (ha : Dt a) (hd : ∀ d ∈ ds, Dt d) (S : Sto) : inD S a (.tup ds) = some ((toPs ds).any fun y => PyData.eqv y (toP a)) := by
  have e : signIn a (.tup ds) = none := by
    unfold signIn
    split
    · rename_i h; cases h
    · rfl
  have e2 : inSeq S a (.tup ds) = some ((toPs ds).any fun y => PyData.eqv y (toP a)) := by
    unfold inSeq
    rw [ha.look]
    show (match resL (look S) ds with
      | some ys => some (ys.any fun y => PyData.eqv y (toP a))
      | none => none) = _
    rw [resL_look hd]
  unfold inD
  rw [e]
  dsimp only
  rw [e2]
theorem inD_lst {a : D} {ds : List D} (ha : Dt a) (hd : ∀ d ∈ ds, Dt d) (S : Sto) : inD S a (.lst ds) = some ((toPs ds).any fun y => PyData.eqv y (toP a)) := by
  have e : signIn a (.lst ds) = none := by
    unfold signIn
    split
    · rename_i h; cases h
    · rfl
  have e2 : inSeq S a (.lst ds) = some ((toPs ds).any fun y => PyData.eqv y (toP a)) := by
    unfold inSeq
    rw [ha.look]
    show (match resL (look S) ds with
      | some ys => some (ys.any fun y => PyData.eqv y (toP a))
      | none => none) = _
    rw [resL_look hd]
  unfold inD
  rw [e]
  dsimp only
  rw [e2]
theorem inD_sign (c : Nat) (y : List Nat) (S : Sto) : inD S (.str [c]) (.str y) = some (decide (c ∈ y)) := rfl
/-! ### the store -/
theorem gc_self (S : Sto) (d : D) : gc S d S = S := by unfold gc; split <;> rfl
theorem gc_len {S S' : Sto} (d : D) (h : S'.length = S.length) : gc S d S' = S' := by
  unfold gc
  split
  · rename_i hc
    obtain ⟨t, ht⟩ := hc.2
    have : t = [] := by
      have := congrArg List.length ht
      rw [List.length_append] at this
      exact List.length_eq_zero_iff.mp (by omega)
    rw [this, List.append_nil] at ht
    exact ht
  · rfl
/-! ### comprehensions, loops -/
theorem chk_nil (S : Sto) : Chk [] S := fun p hp => by cases hp
theorem compL_map {step : D → Sto → Out (Option D)} {g : D → D} {S : Sto} : ∀ {xs : List D}, (∀ d ∈ xs, step d S = .ok (some (g d)) S) → compL [] step xs S = .ok (xs.map g) S
  | [], _ => by unfold compL; rw [if_pos (chk_nil S)]; rfl
  | d :: ds, h => by
    unfold compL
    rw [if_pos (chk_nil S), h d List.mem_cons_self]
    dsimp only
    rw [compL_map fun e he => h e (List.mem_cons_of_mem _ he)]
    rfl
theorem compL_filter {step : D → Sto → Out (Option D)} {p : D → Bool} {g : D → D} {S : Sto} : ∀ {xs : List D}, (∀ d ∈ xs, step d S = .ok (if p d then some (g d) else none) S) → compL [] step xs S = .ok ((xs.filter p).map g) S
  | [], _ => by unfold compL; rw [if_pos (chk_nil S)]; rfl
  | d :: ds, h => by
    unfold compL
    rw [if_pos (chk_nil S), h d List.mem_cons_self]
    dsimp only
    rw [compL_filter fun e he => h e (List.mem_cons_of_mem _ he)]
    by_cases q : p d = true
    · simp [q]
    · simp [q]
/-- a call's end -/
noncomputable def endD (S : Sto) (o : SO) : Out D := match o with
  | .ret r S' => .ok r (gc S r S')
  | .nx _ S' => .ok .non (gc S .non S')
  | .exc c fs _ S' => .exc c fs S'
  | _ => .bad
@[simp] theorem endD_ret (S : Sto) (r : D) (S' : Sto) : endD S (.ret r S') = .ok r (gc S r S') := rfl
@[simp] theorem endD_nx (S : Sto) (f : FS) (S' : Sto) : endD S (.nx f S') = .ok .non (gc S .non S') := rfl
@[simp] theorem endD_exc (S : Sto) (c : Nat) (fs : List (Nat × D)) (f : FS) (S' : Sto) : endD S (.exc c fs f S') = .exc c fs S' := rfl
theorem call_of {Φ : Nat → Option Def} {g : Nat} {d : Def} (h : Φ g = some d) (n : Nat) (ds : List D) (S : Sto) (hl : ds.length = d.np ∧ d.np ≤ d.ns) : callN Φ (n + 1) g ds S = endD S (evSs (callN Φ n) d.body (start d ds) S) := by
  conv => lhs; unfold callN
  rw [h]
  dsimp only
  rw [if_pos hl]
  rfl
end SL
set_option Elab.async false
set_option linter.all false
set_option maxRecDepth 100000
set_option maxHeartbeats 1000000
/-! C00: the meaning, step by step. -/
namespace SL
open PySem
@[simp] theorem le_sz (k : Nat) (h : k ≤ 1000) : (k ≤ sz) = True := eq_true (Nat.le_trans h (by decide))
section
variable (c : Nat → List D → Sto → Out D) (f : FS) (S : Sto)
/-- a slot -/
def getS (f : FS) (i : Nat) (S : Sto) : Out D := match f[i]? with
  | some (some d) => .ok d S
  | _ => .bad
@[simp] theorem getS_zero (d : D) : getS (some d :: f) 0 S = .ok d S := rfl
@[simp] theorem getS_succ (x : Option D) (i : Nat) : getS (x :: f) (i + 1) S = getS f i S := by simp [getS]
@[simp] theorem setAt_zero (x : Option D) (d : D) : setAt (x :: f) 0 d = some d :: f := rfl
@[simp] theorem setAt_succ (x : Option D) (i : Nat) (d : D) : setAt (x :: f) (i + 1) d = x :: setAt f i d := rfl
@[simp] theorem ev_var (i : Nat) : evE c (.var i) f S = getS f i S := by unfold evE getS; rfl
@[simp] theorem ev_cst (d : D) : evE c (.cst d) f S = .ok d S := by unfold evE; rfl
@[simp] theorem ev_tup (es : Es) : evE c (.tup es) f S = (evEs c es f S).bind fun ds S => if ds.length ≤ sz then .ok (.tup ds) S else .bad := by conv => lhs; unfold evE
@[simp] theorem ev_lst (es : Es) : evE c (.lst es) f S = (evEs c es f S).bind fun ds S => if ds.length ≤ sz then .ok (.lst ds) S else .bad := by conv => lhs; unfold evE
@[simp] theorem ev_new (es : Es) : evE c (.newL es) f S = (evE c (.lst es) f S).bind fun d S => newD d S := by
  conv => lhs; unfold evE
  conv => rhs; unfold evE
@[simp] theorem ev_newC (es : Es) : evE c (.newC es) f S = (evE c (.blt .list es) f S).bind fun d S => newD d S := by
  conv => lhs; unfold evE
  conv => rhs; unfold evE
@[simp] theorem ev_newP (a b : E) : evE c (.newP a b) f S = (evE c a f S).bind fun x S => (evE c b f S).bind fun y S => catD x y S := by conv => lhs; unfold evE
@[simp] theorem ev_bin (op : Bop) (a b : E) : evE c (.bin op a b) f S = (evE c a f S).bind fun x S => (evE c b f S).bind fun y S => binD op x y S := by conv => lhs; unfold evE
@[simp] theorem ev_cmp (op : Cop) (a b : E) : evE c (.cmp op a b) f S = (evE c a f S).bind fun x S => (evE c b f S).bind fun y S => cmpD op x y S := by conv => lhs; unfold evE
@[simp] theorem ev_isN (a : E) : evE c (.isN a) f S = (evE c a f S).bind fun x S => .ok (.bl (isND x)) S := by conv => lhs; unfold evE
@[simp] theorem ev_notN (a : E) : evE c (.notN a) f S = (evE c a f S).bind fun x S => .ok (.bl (!isND x)) S := by conv => lhs; unfold evE
@[simp] theorem ev_isB (b : Bool) (a : E) : evE c (.isB b a) f S = (evE c a f S).bind fun x S => isBD b x S := by conv => lhs; unfold evE
@[simp] theorem ev_notB (b : Bool) (a : E) : evE c (.notB b a) f S = (evE c a f S).bind fun x S => notBD b x S := by conv => lhs; unfold evE
@[simp] theorem ev_and (a b : E) : evE c (.and a b) f S = (evE c a f S).bind fun x S => andD (evE c b) f x S := by conv => lhs; unfold evE
@[simp] theorem ev_or (a b : E) : evE c (.or a b) f S = (evE c a f S).bind fun x S => orD (evE c b) f x S := by conv => lhs; unfold evE
@[simp] theorem ev_not (a : E) : evE c (.not a) f S = (evE c a f S).bind fun x S => notD x S := by conv => lhs; unfold evE
@[simp] theorem ev_neg (a : E) : evE c (.neg a) f S = (evE c a f S).bind fun x S => negD x S := by conv => lhs; unfold evE
@[simp] theorem ev_ite (t a b : E) : evE c (.ite t a b) f S = (evE c t f S).bind fun x S => iteD (evE c a) (evE c b) f x S := by conv => lhs; unfold evE
@[simp] theorem ev_sub (a i : E) : evE c (.sub a i) f S = (evE c a f S).bind fun x S => (evE c i f S).bind fun y S => subD x y S := by conv => lhs; unfold evE
@[simp] theorem ev_slc (a : E) (lo hi : Oe) : evE c (.slc a lo hi) f S = (evE c a f S).bind fun x S => (evB c lo f S).bind fun l S => (evB c hi f S).bind fun h S => slcD x l h S := by conv => lhs; unfold evE
@[simp] theorem ev_call (g : Nat) (es : Es) : evE c (.call g es) f S = (evEs c es f S).bind fun ds S => c g ds S := by conv => lhs; unfold evE
@[simp] theorem ev_blt (b : Blt) (es : Es) : evE c (.blt b es) f S = (evEs c es f S).bind fun ds S => bltD b ds S := by conv => lhs; unfold evE
@[simp] theorem ev_isi (a : E) (ts : List Ty) : evE c (.isi a ts) f S = (evE c a f S).bind fun x S => isiD ts x S := by conv => lhs; unfold evE
@[simp] theorem ev_mth (m : Mt) (o : E) (es : Es) : evE c (.mth m o es) f S = (evE c o f S).bind fun x S => mthX m (evEs c es) f x S := by conv => lhs; unfold evE
@[simp] theorem ev_comp (elt : E) (tg : Tg) (it : It) (cond : Oe) (own : List Nat) : evE c (.comp elt tg it cond own) f S = (evIt c it f S).bind fun src S => compD tg (evO c cond) (evE c elt) own f src S := by conv => lhs; unfold evE
@[simp] theorem ev_glo0 : evE c (.glo 0) f S = .ok (.str [97, 98, 99, 100, 101, 102, 103, 104]) S := by unfold evE; rfl
@[simp] theorem ev_glo1 : evE c (.glo 1) f S = .ok (.tup [.str [110, 111, 110, 101]]) S := by unfold evE; rfl
@[simp] theorem ev_glo2 : evE c (.glo 2) f S = .ok (.tup [.str [101, 109, 112, 116, 121]]) S := by unfold evE; rfl
@[simp] theorem evs_nil : evEs c .nil f S = .ok [] S := by unfold evEs; rfl
@[simp] theorem evs_cons (e : E) (r : Es) : evEs c (.cons e r) f S = (evE c e f S).bind fun d S => (evEs c r f S).bind fun ds S => .ok (d :: ds) S := by conv => lhs; unfold evEs
@[simp] theorem evo_no : evO c .no f S = .ok none S := by unfold evO; rfl
@[simp] theorem evo_yes (e : E) : evO c (.yes e) f S = (evE c e f S).bind fun d S => .ok (some d) S := by conv => lhs; unfold evO
@[simp] theorem evb_no : evB c .no f S = .ok none S := by unfold evB; rfl
@[simp] theorem evb_yes (e : E) : evB c (.yes e) f S = (evE c e f S).bind fun d S => bndD d S := by conv => lhs; unfold evB
@[simp] theorem evi_val (e : E) : evIt c (.val e) f S = (evE c e f S).bind fun d S => valD d S := by conv => lhs; unfold evIt
@[simp] theorem evi_r1 (a : E) : evIt c (.range1 a) f S = (evE c a f S).bind fun x S => rng1D x S := by conv => lhs; unfold evIt
@[simp] theorem evi_r2 (a b : E) : evIt c (.range2 a b) f S = (evE c a f S).bind fun x S => (evE c b f S).bind fun y S => rng2D x y S := by conv => lhs; unfold evIt
@[simp] theorem evS_asg (tg : Tg) (e : E) : evS c (.asg tg e) f S = (evE c e f S).so f fun d S => asgD tg f d S := by conv => lhs; unfold evS
@[simp] theorem evS_put (o i e : E) : evS c (.put o i e) f S = (evE c e f S).so f fun d S => (evE c o f S).so f fun o S => (evE c i f S).so f fun i S => (putD o i d S).so f fun _ S => .nx f S := by conv => lhs; unfold evS
@[simp] theorem evS_aug (i : Nat) (op : Bop) (e : E) : evS c (.aug i op e) f S = augN op i (evE c e) f S := by conv => lhs; unfold evS
@[simp] theorem evS_augS (o i : E) (op : Bop) (e : E) : evS c (.augS o i op e) f S = (evE c o f S).so f fun o S => (evE c i f S).so f fun i S => (augGet o i S).so f fun a S => (evE c e f S).so f fun b S => (augD op a b S).so f fun d S => (putD o i d S).so f fun _ S => .nx f S := by conv => lhs; unfold evS
@[simp] theorem evS_exp (e : E) : evS c (.exp e) f S = (evE c e f S).so f fun _ S => .nx f S := by conv => lhs; unfold evS
@[simp] theorem evS_ret (e : E) : evS c (.ret e) f S = (evE c e f S).so f fun d S => .ret d S := by conv => lhs; unfold evS
@[simp] theorem evS_ifs (t : E) (a b : Ss) : evS c (.ifs t a b) f S = (evE c t f S).so f fun x S => ifD (evSs c a) (evSs c b) f x S := by conv => lhs; unfold evS
theorem evS_whl (t : E) (a : Ss) : evS c (.whl t a) f S = whl (evE c t) (evSs c a) f S := by conv => lhs; unfold evS
@[simp] theorem evS_fors (tg : Tg) (it : It) (a : Ss) : evS c (.fors tg it a) f S = (evIt c it f S).so f fun src S => forL src.chk (forB tg (evSs c a)) src.xs f S := by conv => lhs; unfold evS
@[simp] theorem evS_brk : evS c .brk f S = .brk f S := by unfold evS; rfl
@[simp] theorem evS_cont : evS c .cont f S = .ct f S := by unfold evS; rfl
@[simp] theorem evS_trys (a : Ss) (x e v : Nat) : evS c (.trys a x e v) f S = tryD x e v (evSs c a f S) := by conv => lhs; unfold evS
@[simp] theorem evSs_nil : evSs c .nil f S = .nx f S := by unfold evSs; rfl
@[simp] theorem evSs_cons (s : SL.S) (r : Ss) : evSs c (.cons s r) f S = thenS (evSs c r) (evS c s f S) := by conv => lhs; unfold evSs
end
@[simp] theorem thenS_nx (u : FS → Sto → SO) (f : FS) (S : Sto) : thenS u (.nx f S) = u f S := rfl
@[simp] theorem thenS_ret (u : FS → Sto → SO) (d : D) (S : Sto) : thenS u (.ret d S) = .ret d S := rfl
@[simp] theorem thenS_exc (u : FS → Sto → SO) (c : Nat) (fs : List (Nat × D)) (f : FS) (S : Sto) : thenS u (.exc c fs f S) = .exc c fs f S := rfl
@[simp] theorem thenS_brk (u : FS → Sto → SO) (f : FS) (S : Sto) : thenS u (.brk f S) = .brk f S := rfl
@[simp] theorem thenS_ct (u : FS → Sto → SO) (f : FS) (S : Sto) : thenS u (.ct f S) = .ct f S := rfl
@[simp] theorem ifD_true (t u : FS → Sto → SO) (f : FS) (S : Sto) : ifD t u f (.bl true) S = t f S := rfl
@[simp] theorem ifD_false (t u : FS → Sto → SO) (f : FS) (S : Sto) : ifD t u f (.bl false) S = u f S := rfl
@[simp] theorem andD_true (t : FS → Sto → Out D) (f : FS) (S : Sto) : andD t f (.bl true) S = t f S := rfl
@[simp] theorem andD_false (t : FS → Sto → Out D) (f : FS) (S : Sto) : andD t f (.bl false) S = .ok (.bl false) S := rfl
@[simp] theorem orD_true (t : FS → Sto → Out D) (f : FS) (S : Sto) : orD t f (.bl true) S = .ok (.bl true) S := rfl
@[simp] theorem orD_false (t : FS → Sto → Out D) (f : FS) (S : Sto) : orD t f (.bl false) S = t f S := rfl
@[simp] theorem notD_bl (b : Bool) (S : Sto) : notD (.bl b) S = .ok (.bl (!b)) S := rfl
@[simp] theorem asg_name (i : Nat) (f : FS) (d : D) (S : Sto) : asgD (.name i) f d S = .nx (setAt f i d) S := rfl
@[simp] theorem bind_name (i : Nat) (f : FS) (d : D) (S : Sto) : bindTg S (.name i) d f = some (setAt f i d) := rfl
@[simp] theorem bnd_int (i : Int) (S : Sto) : bndD (.int i) S = .ok (some i) S := rfl
@[simp] theorem val_tup (ds : List D) (S : Sto) : valD (.tup ds) S = .ok ⟨[], ds⟩ S := rfl
@[simp] theorem val_lst (ds : List D) (S : Sto) : valD (.lst ds) S = .ok ⟨[], ds⟩ S := rfl
theorem val_str (w : List Nat) (h : w.length ≤ sz) (S : Sto) : valD (.str w) S = .ok ⟨[], w.map fun c => .str [c]⟩ S := by simp [valD, srcOf, h]
@[simp] theorem wipe_nil (f : FS) : wipe f [] = f := rfl
@[simp] theorem isi_one' (t : Ty) (d : D) (S : Sto) (b : Bool) (h : isTy S t d = some b) : isiD [t] d S = .ok (.bl b) S := by simp [isiD, isTys, h]
theorem cmp_eq {a b : D} {S : Sto} {r : Bool} (h : eqD S a b = some r) : cmpD .eq a b S = .ok (.bl r) S := by simp [cmpD, h, boolD]
theorem cmp_ne {a b : D} {S : Sto} {r : Bool} (h : eqD S a b = some r) : cmpD .ne a b S = .ok (.bl (!r)) S := by simp [cmpD, h, boolD]
theorem cmp_in {a b : D} {S : Sto} {r : Bool} (h : inD S a b = some r) : cmpD .isin a b S = .ok (.bl r) S := by simp [cmpD, h, boolD]
theorem cmp_notin {a b : D} {S : Sto} {r : Bool} (h : inD S a b = some r) : cmpD .notin a b S = .ok (.bl (!r)) S := by simp [cmpD, h, boolD]
@[simp] theorem cmp_eq_int (i j : Int) (S : Sto) : cmpD .eq (.int i) (.int j) S = .ok (.bl (decide (i = j))) S := cmp_eq (eqD_int i j S)
@[simp] theorem cmp_ne_int (i j : Int) (S : Sto) : cmpD .ne (.int i) (.int j) S = .ok (.bl (!decide (i = j))) S := cmp_ne (eqD_int i j S)
@[simp] theorem cmp_lt_int (i j : Int) (S : Sto) : cmpD .lt (.int i) (.int j) S = .ok (.bl (decide (i < j))) S := rfl
@[simp] theorem cmp_le_int (i j : Int) (S : Sto) : cmpD .le (.int i) (.int j) S = .ok (.bl (decide (i ≤ j))) S := rfl
@[simp] theorem cmp_gt_int (i j : Int) (S : Sto) : cmpD .gt (.int i) (.int j) S = .ok (.bl (decide (j < i))) S := rfl
@[simp] theorem cmp_ge_int (i j : Int) (S : Sto) : cmpD .ge (.int i) (.int j) S = .ok (.bl (decide (j ≤ i))) S := rfl
@[simp] theorem len_tup (ds : List D) (S : Sto) : bltD .len [.tup ds] S = .ok (.int ds.length) S := rfl
@[simp] theorem len_lst (ds : List D) (S : Sto) : bltD .len [.lst ds] S = .ok (.int ds.length) S := rfl
theorem len_str (w : List Nat) (h : w.length ≤ sz) (S : Sto) : bltD .len [.str w] S = .ok (.int w.length) S := by simp [bltD, h]
theorem compD_map {tg : Tg} {tc : FS → Sto → Out (Option D)} {te : FS → Sto → Out D} {own : List Nat} {f : FS} {xs : List D} {S : Sto} (g : D → D) (h : ∀ d ∈ xs, stepD tg tc te (wipe f own) d S = .ok (some (g d)) S) : compD tg tc te own f ⟨[], xs⟩ S = .ok (.lst (xs.map g)) S := by
  unfold compD
  dsimp only
  rw [compL_map h]
theorem compD_filter {tg : Tg} {tc : FS → Sto → Out (Option D)} {te : FS → Sto → Out D} {own : List Nat} {f : FS} {xs : List D} {S : Sto} (p : D → Bool) (g : D → D) (h : ∀ d ∈ xs, stepD tg tc te (wipe f own) d S = .ok (if p d then some (g d) else none) S) : compD tg tc te own f ⟨[], xs⟩ S = .ok (.lst ((xs.filter p).map g)) S := by
  unfold compD
  dsimp only
  rw [compL_filter h]
/-- a turn without a test -/
theorem step_no {tg : Tg} {te : FS → Sto → Out D} {f f' : FS} {d r : D} {S S' : Sto} {c : Nat → List D → Sto → Out D} (h1 : bindTg S tg d f = some f') (h2 : te f' S = .ok r S') : stepD tg (evO c .no) te f d S = .ok (some r) S' := by
  unfold stepD
  rw [h1]
  simp [h2]
/-- a turn with a test -/
theorem step_yes {tg : Tg} {te : FS → Sto → Out D} {t : E} {f f' : FS} {d r : D} {S : Sto} {b : Bool} {c : Nat → List D → Sto → Out D} (h1 : bindTg S tg d f = some f') (h3 : evE c t f' S = .ok (.bl b) S) (h2 : b = true → te f' S = .ok r S) : stepD tg (evO c (.yes t)) te f d S = .ok (if b then some r else none) S := by
  unfold stepD
  rw [h1]
  simp only [evo_yes, h3, Out.ok_bind]
  cases b with
  | true => simp [h2 rfl]
  | false => rfl
theorem bools_map {α : Type} (f : α → Bool) (ds : List α) : bools (ds.map fun d => .bl (f d)) = some (ds.map f) := by
  induction ds with
  | nil => rfl
  | cons d ds ih => simp only [List.map_cons, bools, ih]
theorem all_bl {α : Type} (f : α → Bool) (ds : List α) (S : Sto) : bltD .all [.lst (ds.map fun d => .bl (f d))] S = .ok (.bl (ds.all f)) S := by
  simp [bltD, items, bools_map, List.all_map]
theorem any_bl {α : Type} (f : α → Bool) (ds : List α) (S : Sto) : bltD .any [.lst (ds.map fun d => .bl (f d))] S = .ok (.bl (ds.any f)) S := by
  simp [bltD, items, bools_map, List.any_map]
end SL
set_option Elab.async false
set_option linter.all false
set_option maxRecDepth 100000
set_option maxHeartbeats 1000000
/-! C1: the program's look at a pattern. -/
namespace SL
open PySem
abbrev sNone : List Nat := [110, 111, 110, 101]
abbrev sEmpty : List Nat := [101, 109, 112, 116, 121]
abbrev sSign : List Nat := [115, 105, 103, 110]
abbrev sStar : List Nat := [115, 116, 97, 114]
abbrev sOr : List Nat := [111, 114]
abbrev sThen : List Nat := [116, 104, 101, 110]
abbrev sigs : List Nat := [97, 98, 99, 100, 101, 102, 103, 104]
/-- a word of signs -/
def isW : D → Bool
  | .str w => w.all fun c => decide (c ∈ sigs)
  | _ => false
def one : D → Bool
  | .str w => decide (w.length = 1)
  | _ => false
mutual
/-- a pattern -/
def isP : D → Bool
  | .tup ds => isPt ds
  | _ => false
def isPt : List D → Bool
  | [.str s] => decide (s = sNone) || decide (s = sEmpty)
  | [.str s, y] => (decide (s = sSign) && (isW y && one y)) || (decide (s = sStar) && isP y)
  | [.str s, y, z] => (decide (s = sOr) || decide (s = sThen)) && (isP y && isP z)
  | _ => false
end
structure Phi2 (Φ : Nat → Option Def) : Prop where
  h1 : Φ 1 = some f1_is_right_word
  h2 : Φ 2 = some f2_is_right_pattern
variable {Φ : Nat → Option Def}
theorem dts {x : List Nat} (h : x.all (fun c => decide (c < 1114112)) = true) : Dt (.str x) := Dt.str fun c hc => of_decide_eq_true (List.all_eq_true.mp h c hc)
theorem right_word (P : Phi2 Φ) {n : Nat} {d : D} (hz : ∀ w, d = .str w → w.length ≤ sz) (S : Sto) (hf : flat d = true) : callN Φ (n + 1) 1 [d] S = .ok (.bl (isW d)) S := by
  rw [call_of P.h1 n [d] S ⟨rfl, by decide⟩]
  have go : evSs (callN Φ n) f1_is_right_word.body [some d, none] S = .ret (.bl (isW d)) S := by
    cases d with
    | str w =>
      have cm : compD (.name 1) (evO (callN Φ n) .no) (evE (callN Φ n) (.cmp .isin (.var 1) (.glo 0))) [1] [some (.str w), none] ⟨[], w.map fun c => .str [c]⟩ S = .ok (.lst (w.map fun c => .bl (decide (c ∈ sigs)))) S := by
        rw [compD_map (fun e => .bl (match e with | .str [c] => decide (c ∈ sigs) | _ => false)) fun e he => ?_]
        · rw [List.map_map]; rfl
        · obtain ⟨c, _, rfl⟩ := List.mem_map.mp he
          exact step_no rfl (by simp [wipe, cmp_in (inD_sign _ _ _)])
      simp [f1_is_right_word, isTy, val_str w (hz w rfl), cm, all_bl, isW]
    | ref k => cases hf
    | dct _ _ => cases hf
    | _ => simp [f1_is_right_word, isTy, isW]
  show endD S (evSs (callN Φ n) f1_is_right_word.body [some d, none] S) = _
  rw [go]
  simp [gc_self]
theorem eq_empty {ds : List D} (h : Dt (.tup ds)) (S : Sto) : cmpD .eq (.tup ds) (.tup []) S = .ok (.bl ds.isEmpty) S := by
  rw [cmp_eq (eqD_dt h ⟨rfl, rfl, by decide⟩ S)]
  cases ds <;> simp [toP, toPs, PyData.eqv, PyData.eqvAll]
theorem in_two {s a b : List Nat} (hs : Dt (.str s)) (ha : Dt (.str a)) (hb : Dt (.str b)) (S : Sto) : cmpD .isin (.str s) (.tup [.str a, .str b]) S = .ok (.bl (decide (s = a) || decide (s = b))) S := by
  rw [cmp_in (inD_tup hs (fun d hd => by
    rcases List.mem_cons.mp hd with rfl | hd
    · exact ha
    · rw [List.mem_singleton.mp hd]; exact hb) S)]
  simp only [toPs, toP, List.any_cons, List.any_nil, PyData.eqv, str_beq, Bool.or_false]
  congr 3 <;> (apply decide_eq_decide.mpr; exact eq_comm)
theorem sub0 (e : D) (r : List D) (S : Sto) : subD (.tup (e :: r)) (.int 0) S = .ok e S := by simp [subD, seqOf, placeOf]
theorem sub1 (e y : D) (r : List D) (S : Sto) : subD (.tup (e :: y :: r)) (.int 1) S = .ok y S := by
  have h : (1 : Int) < (r.length : Int) + 1 + 1 := by omega
  simp [subD, seqOf, placeOf, h]
theorem sub2 (e y z : D) (r : List D) (S : Sto) : subD (.tup (e :: y :: z :: r)) (.int 2) S = .ok z S := by
  have h : (2 : Int) < (r.length : Int) + 1 + 1 + 1 := by omega
  simp [subD, seqOf, placeOf, h]
theorem all_two (a b : Bool) (S : Sto) : bltD .all [.lst [.bl a, .bl b]] S = .ok (.bl (a && b)) S := by simp [bltD, items, bools]
theorem slc1 (e : D) (r : List D) (S : Sto) : slcD (.tup (e :: r)) (some 1) none S = .ok (.tup r) S := by simp [slcD, cut, cutAt]
theorem wt_mem {ds : List D} : ∀ d ∈ ds, (toP d).weight ≤ (toP (.tup ds)).weight := by
  induction ds with
  | nil => intro d hd; cases hd
  | cons e r ih =>
    intro d hd
    simp only [toP, toPs, PyData.weight, PyData.weightAll] at ih ⊢
    rcases List.mem_cons.mp hd with rfl | hd
    · omega
    · have := ih d hd; omega
theorem str_wt {w : List Nat} {d : D} (h : (toP d).weight ≤ sz) (e : d = .str w) : w.length ≤ sz := by
  subst e
  simpa [toP, PyData.weight] using h
def tagged (d : D) : Bool := match d with
  | .str _ => true
  | _ => false
theorem isP_untag {e : D} {r : List D} (h : ∀ s, e ≠ .str s) : isP (.tup (e :: r)) = false := by
  unfold isP
  cases r with
  | nil => cases e <;> first | rfl | exact absurd rfl (h _)
  | cons a r => cases r with
    | nil => cases e <;> first | rfl | exact absurd rfl (h _)
    | cons b r => cases r with
      | nil => cases e <;> first | rfl | exact absurd rfl (h _)
      | cons c r => cases e <;> rfl
theorem isTy_tup (ds : List D) (S : Sto) : isTy S .tup (.tup ds) = some true := rfl
theorem isTy_str {e : D} {S : Sto} (hf : flat e = true) (h : ∀ s, e ≠ .str s) : isTy S .str e = some false := by
  cases e <;> first | rfl | exact absurd rfl (h _) | cases hf
theorem right_pattern (P : Phi2 Φ) : ∀ (m : Nat) (d : D), Dt d → (toP d).depth ≤ m → (toP d).weight ≤ sz → ∀ (n : Nat) (S : Sto), callN Φ (n + m + 2) 2 [d] S = .ok (.bl (isP d)) S
  | m, d, hd, hm, hw, n, S => by
    rw [call_of P.h2 (n + m + 1) [d] S ⟨rfl, by decide⟩]
    have dN : Dt (.str sNone) := dts rfl
    have dE : Dt (.str sEmpty) := dts rfl
    have dS : Dt (.str sSign) := dts rfl
    have dT : Dt (.str sStar) := dts rfl
    have dO : Dt (.str sOr) := dts rfl
    have dH : Dt (.str sThen) := dts rfl
    have go : evSs (callN Φ (n + m + 1)) f2_is_right_pattern.body [some d, none] S = .ret (.bl (isP d)) S := by
      cases d with
      | ref k => cases hd.fl
      | dct _ _ => cases hd.fl
      | tup ds =>
        cases ds with
        | nil => simp [f2_is_right_pattern, isTy, eq_empty hd, isP, isPt]
        | cons e r =>
          have he : ∀ x ∈ (e :: r), Dt x ∧ (toP x).depth < (toP (.tup (e :: r))).depth := hd.parts
          have wt : ∀ x ∈ (e :: r), (toP x).weight ≤ sz := fun x hx => Nat.le_trans (wt_mem x hx) hw
          by_cases hstr : ∃ s, e = .str s
          · obtain ⟨s, rfl⟩ := hstr
            have hs : Dt (.str s) := (he _ List.mem_cons_self).1
            by_cases q1 : s = sNone ∨ s = sEmpty
            · have q1' : (decide (s = sNone) || decide (s = sEmpty)) = true := by simpa using q1
              have r1 : isP (.tup (.str s :: r)) = decide (r = []) := by
                unfold isP
                match r with
                | [] => simpa [isPt] using q1
                | [y] => rcases q1 with rfl | rfl <;> simp [isPt]
                | [y, z] => rcases q1 with rfl | rfl <;> simp [isPt]
                | _ :: _ :: _ :: _ => simp [isPt]
              have r2 : decide (((r.length : Int) + 1) = 1) = decide (r = []) := by
                apply decide_eq_decide.mpr
                constructor
                · intro h; exact List.length_eq_zero_iff.mp (by omega)
                · rintro rfl; rfl
              simp only [r1]
              simp [f2_is_right_pattern, isTy, eq_empty hd, sub0, in_two hs dN dE, q1', r2]
            · have q1' : (decide (s = sNone) || decide (s = sEmpty)) = false := by simpa using q1
              by_cases q2 : s = sSign
              · subst q2
                match r, he, wt with
                | [], _, _ => simp [f2_is_right_pattern, isTy, eq_empty hd, sub0, in_two dS dN dE, cmp_eq (eqD_str dS dS S), isP, isPt]
                | [y], he, wt =>
                  have hy := (he y (by simp)).1
                  have rw1 := right_word P (n := n + m) (fun w e => str_wt (wt y (by simp)) e) S hy.fl
                  cases y with
                  | str w =>
                    have hl : w.length ≤ sz := str_wt (wt (.str w) (by simp)) rfl
                    cases q3 : isW (.str w) <;> simp [f2_is_right_pattern, isTy, eq_empty hd, sub0, sub1, in_two dS dN dE, cmp_eq (eqD_str dS dS S), isP, isPt, rw1, q3, len_str w hl, one]
                    omega
                  | ref k => cases hy.fl
                  | dct _ _ => cases hy.fl
                  | _ => simp [f2_is_right_pattern, isTy, eq_empty hd, sub0, sub1, in_two dS dN dE, cmp_eq (eqD_str dS dS S), isP, isPt, rw1, isW]
                | [y, z], _, _ => simp [f2_is_right_pattern, isTy, eq_empty hd, sub0, in_two dS dN dE, cmp_eq (eqD_str dS dS S), isP, isPt]
                | y :: z :: u :: r, _, _ =>
                  have hh : ¬ ((r.length : Int) + 1 + 1 + 1 + 1 = 2) := by omega
                  simp [f2_is_right_pattern, isTy, eq_empty hd, sub0, in_two dS dN dE, cmp_eq (eqD_str dS dS S), isP, isPt, hh]
              · by_cases q3 : s = sStar
                · subst q3
                  match r, he, wt with
                  | [], _, _ => simp [f2_is_right_pattern, isTy, eq_empty hd, sub0, in_two dT dN dE, cmp_eq (eqD_str dT dS S), cmp_eq (eqD_str dT dT S), isP, isPt]
                  | [y], he, wt =>
                    obtain ⟨hy, hdy⟩ := he y (by simp)
                    obtain ⟨m', rfl⟩ : ∃ m', m = m' + 1 := ⟨m - 1, by omega⟩
                    have ih := right_pattern P m' y hy (by omega) (wt y (by simp)) n S
                    have ef : n + (m' + 1) + 1 = n + m' + 2 := by omega
                    rw [ef]
                    simp [f2_is_right_pattern, isTy, eq_empty hd, sub0, sub1, in_two dT dN dE, cmp_eq (eqD_str dT dS S), cmp_eq (eqD_str dT dT S), isP, isPt, ih]
                  | [y, z], _, _ => simp [f2_is_right_pattern, isTy, eq_empty hd, sub0, in_two dT dN dE, cmp_eq (eqD_str dT dS S), cmp_eq (eqD_str dT dT S), isP, isPt]
                  | y :: z :: u :: r, _, _ =>
                    have hh : ¬ ((r.length : Int) + 1 + 1 + 1 + 1 = 2) := by omega
                    simp [f2_is_right_pattern, isTy, eq_empty hd, sub0, in_two dT dN dE, cmp_eq (eqD_str dT dS S), cmp_eq (eqD_str dT dT S), isP, isPt, hh]
                · have q4 : (decide (s = sNone) || decide (s = sEmpty)) = false := q1'
                  have r0 : isP (.tup (.str s :: r)) = match r with
                    | [y, z] => (decide (s = sOr) || decide (s = sThen)) && (isP y && isP z)
                    | _ => false := by
                    match r with
                    | [] => simpa [isP, isPt] using q1
                    | [y] => simp [isP, isPt, q2, q3]
                    | [y, z] => rfl
                    | _ :: _ :: _ :: _ => simp [isP, isPt]
                  rw [r0]
                  have base : evSs (callN Φ (n + m + 1)) f2_is_right_pattern.body [some (.tup (.str s :: r)), none] S = thenS (evSs (callN Φ (n + m + 1)) .nil) ((evE (callN Φ (n + m + 1)) (.and (.cmp .isin (.sub (.var 0) (.cst (.int 0))) (.tup (.cons (.cst (.str [111, 114])) (.cons (.cst (.str [116, 104, 101, 110])) .nil)))) (.and (.cmp .eq (.blt .len (.cons (.var 0) .nil)) (.cst (.int 3))) (.blt .all (.cons (.comp (.call 2 (.cons (.var 1) .nil)) (.name 1) (.val (.slc (.var 0) (.yes (.cst (.int 1))) .no)) .no [1]) .nil)))) [some (.tup (.str s :: r)), none] S).so [some (.tup (.str s :: r)), none] fun d S => .ret d S) := by
                    have n1 : decide (s = sSign) = false := by simpa using q2
                    have n2 : decide (s = sStar) = false := by simpa using q3
                    simp [f2_is_right_pattern, isTy, eq_empty hd, sub0, in_two hs dN dE, q1', cmp_eq (eqD_str hs dS S), cmp_eq (eqD_str hs dT S), n1, n2]
                  have fin : ∀ b, evE (callN Φ (n + m + 1)) (.and (.cmp .isin (.sub (.var 0) (.cst (.int 0))) (.tup (.cons (.cst (.str [111, 114])) (.cons (.cst (.str [116, 104, 101, 110])) .nil)))) (.and (.cmp .eq (.blt .len (.cons (.var 0) .nil)) (.cst (.int 3))) (.blt .all (.cons (.comp (.call 2 (.cons (.var 1) .nil)) (.name 1) (.val (.slc (.var 0) (.yes (.cst (.int 1))) .no)) .no [1]) .nil)))) [some (.tup (.str s :: r)), none] S = .ok (.bl b) S → evSs (callN Φ (n + m + 1)) f2_is_right_pattern.body [some (.tup (.str s :: r)), none] S = .ret (.bl b) S := fun b hb => by rw [base, hb]; rfl
                  apply fin
                  match r, he, wt, hm with
                  | [], _, _, _ => cases q5 : (decide (s = sOr) || decide (s = sThen)) <;> simp [sub0, in_two hs dO dH, q5]
                  | [y], _, _, _ => cases q5 : (decide (s = sOr) || decide (s = sThen)) <;> simp [sub0, in_two hs dO dH, q5]
                  | [y, z], he, wt, hm =>
                    cases q5 : (decide (s = sOr) || decide (s = sThen)) with
                    | false => simp [sub0, in_two hs dO dH, q5]
                    | true =>
                      obtain ⟨hy, hdy⟩ := he y (by simp)
                      obtain ⟨hz, hdz⟩ := he z (by simp)
                      obtain ⟨m', rfl⟩ : ∃ m', m = m' + 1 := ⟨m - 1, by omega⟩
                      have i1 := right_pattern P m' y hy (by omega) (wt y (by simp)) n S
                      have i2 := right_pattern P m' z hz (by omega) (wt z (by simp)) n S
                      have ef : n + (m' + 1) + 1 = n + m' + 2 := by omega
                      rw [ef]
                      have cm : compD (.name 1) (evO (callN Φ (n + m' + 2)) .no) (evE (callN Φ (n + m' + 2)) (.call 2 (.cons (.var 1) .nil))) [1] [some (.tup [.str s, y, z]), none] ⟨[], [y, z]⟩ S = .ok (.lst ([y, z].map fun d => .bl (isP d))) S := by
                        refine compD_map _ fun e he => step_no rfl ?_
                        rcases List.mem_cons.mp he with rfl | he
                        · simp [wipe, i1]
                        · rw [List.mem_singleton.mp he]; simp [wipe, i2]
                      simp [sub0, in_two hs dO dH, q5, slc1, cm, all_two]
                  | y :: z :: u :: r, _, _, _ =>
                    have hh : ¬ ((r.length : Int) + 1 + 1 + 1 + 1 = 3) := by omega
                    cases q5 : (decide (s = sOr) || decide (s = sThen)) <;> simp [sub0, in_two hs dO dH, q5, hh]
          · have hne : ∀ s, e ≠ .str s := fun s h => hstr ⟨s, h⟩
            rw [isP_untag hne]
            simp [f2_is_right_pattern, isTy_tup, eq_empty hd, sub0, isTy_str (he e List.mem_cons_self).1.fl hne]
      | _ => simp [f2_is_right_pattern, isTy, isP]
    show endD S (evSs (callN Φ (n + m + 1)) f2_is_right_pattern.body [some d, none] S) = _
    rw [go]
    simp [gc_self]
  termination_by m => m
end SL
set_option Elab.async false
set_option linter.all false
set_option maxRecDepth 100000
set_option maxHeartbeats 1000000
/-! C2: the law's look at a pattern. -/
namespace SL
open PySem
structure Phi3 (Φ : Nat → Option Def) : Prop where
  h21 : Φ 21 = some f21_L_is_word
  h22 : Φ 22 = some f22_L_is_pattern
variable {Φ : Nat → Option Def}
theorem signs_dt {w : List Nat} (h : ∀ c ∈ w, c < 1114112) : Dt (.lst (w.map fun c => .str [c])) := by
  refine (Dt.tup (fun d hd => ?_) ?_).2
  · obtain ⟨c, hc, rfl⟩ := List.mem_map.mp hd
    exact Dt.str fun x hx => by rw [List.mem_singleton.mp hx]; exact h c hc
  · have : PyData.depthAll (toPs (w.map fun c => D.str [c])) = 0 := by
      induction w with
      | nil => rfl
      | cons a w ih =>
        simp only [List.map_cons, toPs, toP, PyData.depthAll, PyData.depth]
        rw [ih fun c hc => h c (List.mem_cons_of_mem _ hc)]
        rfl
    omega
theorem eq_nil {ds : List D} (h : Dt (.lst ds)) (S : Sto) : cmpD .eq (.lst ds) (.lst []) S = .ok (.bl ds.isEmpty) S := by
  rw [cmp_eq (eqD_dt h ⟨rfl, rfl, by decide⟩ S)]
  cases ds <;> simp [toP, toPs, PyData.eqv, PyData.eqvAll]
theorem law_word (P : Phi3 Φ) {n : Nat} {d : D} (hd : Dt d) (hz : ∀ w, d = .str w → w.length ≤ sz) (S : Sto) : callN Φ (n + 1) 21 [d] S = .ok (.bl (isW d)) S := by
  rw [call_of P.h21 n [d] S ⟨rfl, by decide⟩]
  have go : evSs (callN Φ n) f21_L_is_word.body [some d, none] S = .ret (.bl (isW d)) S := by
    cases d with
    | str w =>
      have cm : compD (.name 1) (evO (callN Φ n) (.yes (.cmp .notin (.var 1) (.cst (.str [97, 98, 99, 100, 101, 102, 103, 104]))))) (evE (callN Φ n) (.var 1)) [1] [some (.str w), none] ⟨[], w.map fun c => .str [c]⟩ S = .ok (.lst ((w.filter fun c => !decide (c ∈ sigs)).map fun c => .str [c])) S := by
        rw [compD_filter (fun e => match e with | .str [c] => !decide (c ∈ sigs) | _ => false) id fun e he => ?_]
        · rw [List.map_id, List.filter_map]; rfl
        · obtain ⟨c, _, rfl⟩ := List.mem_map.mp he
          exact step_yes rfl (by simp [wipe, cmp_notin (inD_sign _ _ _)]) (fun _ => by simp [wipe])
      have dd : Dt (.lst ((w.filter fun c => !decide (c ∈ sigs)).map fun c => .str [c])) := signs_dt fun c hc => hd.codes c (List.mem_filter.mp hc).1
      have e1 : ((w.filter fun c => !decide (c ∈ sigs)).map fun c => D.str [c]).isEmpty = isW (.str w) := by
        rw [isW, Bool.eq_iff_iff]
        simp
        constructor <;> intro h a ha <;> have := h a ha <;> omega
      simp only [f21_L_is_word, evSs_cons, evS_ret, ev_and, ev_isi, ev_var, getS_zero, Out.ok_bind, isi_one' .str (.str w) S true rfl, andD_true, ev_cmp, ev_comp, evi_val, val_str w (hz w rfl), cm, ev_lst, evs_nil]
      simp only [List.length_nil, Nat.zero_le, if_true, eq_nil dd, Out.ok_bind, Out.so_ok, thenS_ret, e1]
    | ref k => cases hd.fl
    | dct _ _ => cases hd.fl
    | _ => simp [f21_L_is_word, isTy, isW]
  show endD S (evSs (callN Φ n) f21_L_is_word.body [some d, none] S) = _
  rw [go]
  simp [gc_self]
theorem in_two' {s a b : List Nat} (hs : Dt (.str s)) (ha : Dt (.str a)) (hb : Dt (.str b)) (S : Sto) : cmpD .notin (.str s) (.lst [.str a, .str b]) S = .ok (.bl (!(decide (s = a) || decide (s = b)))) S := by
  rw [cmp_notin (inD_lst hs (fun d hd => by
    rcases List.mem_cons.mp hd with rfl | hd
    · exact ha
    · rw [List.mem_singleton.mp hd]; exact hb) S)]
  simp only [toPs, toP, List.any_cons, List.any_nil, PyData.eqv, str_beq, Bool.or_false]
  congr 4 <;> (apply decide_eq_decide.mpr; exact eq_comm)
theorem in_leaves {s : List Nat} {r : List D} (h : Dt (.tup (.str s :: r))) (S : Sto) : cmpD .isin (.tup (.str s :: r)) (.lst [.tup [.str sNone], .tup [.str sEmpty]]) S = .ok (.bl ((decide (s = sNone) || decide (s = sEmpty)) && r.isEmpty)) S := by
  have d1 : ∀ x : List Nat, Dt (.str x) → Dt (.tup [.str x]) := fun x hx => (Dt.tup (fun d hd => by rw [List.mem_singleton.mp hd]; exact hx) (by simp [toPs, toP, PyData.depthAll, PyData.depth])).1
  rw [cmp_in (inD_lst h (fun d hd => by
    rcases List.mem_cons.mp hd with rfl | hd
    · exact d1 _ (dts rfl)
    · rw [List.mem_singleton.mp hd]; exact d1 _ (dts rfl)) S)]
  simp only [toPs, toP, List.any_cons, List.any_nil, PyData.eqv, PyData.eqvAll, str_beq, Bool.or_false]
  have e1 : ∀ xs : List D, PyData.eqvAll [] (toPs xs) = xs.isEmpty := fun xs => by cases xs <;> simp [toPs, PyData.eqvAll]
  rw [e1]
  have c1 : decide (sNone = s) = decide (s = sNone) := decide_eq_decide.mpr eq_comm
  have c2 : decide (sEmpty = s) = decide (s = sEmpty) := decide_eq_decide.mpr eq_comm
  rw [c1, c2]
  cases decide (s = sNone) <;> cases decide (s = sEmpty) <;> cases r.isEmpty <;> rfl
theorem law_pattern (P : Phi3 Φ) : ∀ (m : Nat) (d : D), Dt d → (toP d).depth ≤ m → (toP d).weight ≤ sz → ∀ (n : Nat) (S : Sto), callN Φ (n + m + 2) 22 [d] S = .ok (.bl (isP d)) S
  | m, d, hd, hm, hw, n, S => by
    rw [call_of P.h22 (n + m + 1) [d] S ⟨rfl, by decide⟩]
    have dS : Dt (.str sSign) := dts rfl
    have dT : Dt (.str sStar) := dts rfl
    have dO : Dt (.str sOr) := dts rfl
    have dH : Dt (.str sThen) := dts rfl
    have go : evSs (callN Φ (n + m + 1)) f22_L_is_pattern.body [some d] S = .ret (.bl (isP d)) S := by
      cases d with
      | ref k => cases hd.fl
      | dct _ _ => cases hd.fl
      | tup ds =>
        cases ds with
        | nil => simp [f22_L_is_pattern, isTy, eq_empty hd, isP, isPt]
        | cons e r =>
          have he : ∀ x ∈ (e :: r), Dt x ∧ (toP x).depth < (toP (.tup (e :: r))).depth := hd.parts
          have wt : ∀ x ∈ (e :: r), (toP x).weight ≤ sz := fun x hx => Nat.le_trans (wt_mem x hx) hw
          by_cases hstr : ∃ s, e = .str s
          · obtain ⟨s, rfl⟩ := hstr
            have hs : Dt (.str s) := (he _ List.mem_cons_self).1
            cases q1 : (decide (s = sNone) || decide (s = sEmpty)) && r.isEmpty with
            | true =>
              obtain ⟨a1, a2⟩ := and2 q1
              have e1 : r = [] := List.isEmpty_iff.mp a2
              subst e1
              have : isP (.tup [.str s]) = true := by simpa [isP, isPt] using a1
              rw [this]
              simp [f22_L_is_pattern, isTy, eq_empty hd, sub0, in_leaves hd, a1]
            | false =>
              by_cases q2 : s = sSign
              · subst q2
                match r, he, wt with
                | [], _, _ => simp [f22_L_is_pattern, isTy, eq_empty hd, sub0, in_leaves hd, cmp_eq (eqD_str dS dS S), isP, isPt]
                | [y], he, wt =>
                  have hy := (he y (by simp)).1
                  have rw1 := law_word P (n := n + m) hy (fun w e => str_wt (wt y (by simp)) e) S
                  cases y with
                  | str w =>
                    have hl : w.length ≤ sz := str_wt (wt (.str w) (by simp)) rfl
                    cases q3 : isW (.str w) <;> simp [f22_L_is_pattern, isTy, eq_empty hd, sub0, sub1, in_leaves hd, cmp_eq (eqD_str dS dS S), isP, isPt, rw1, q3, len_str w hl, one]
                    omega
                  | ref k => cases hy.fl
                  | dct _ _ => cases hy.fl
                  | _ => simp [f22_L_is_pattern, isTy, eq_empty hd, sub0, sub1, in_leaves hd, cmp_eq (eqD_str dS dS S), isP, isPt, rw1, isW]
                | [y, z], _, _ => simp [f22_L_is_pattern, isTy, eq_empty hd, sub0, in_leaves hd, cmp_eq (eqD_str dS dS S), isP, isPt]
                | y :: z :: u :: r, _, _ =>
                  have hh : ¬ ((r.length : Int) + 1 + 1 + 1 + 1 = 2) := by omega
                  simp [f22_L_is_pattern, isTy, eq_empty hd, sub0, in_leaves hd, cmp_eq (eqD_str dS dS S), isP, isPt, hh]
              · have n1 : decide (s = sSign) = false := by simpa using q2
                by_cases q3 : s = sStar
                · subst q3
                  match r, he, wt with
                  | [], _, _ => simp [f22_L_is_pattern, isTy, eq_empty hd, sub0, in_leaves hd, cmp_eq (eqD_str dT dS S), cmp_eq (eqD_str dT dT S), isP, isPt]
                  | [y], he, wt =>
                    obtain ⟨hy, hdy⟩ := he y (by simp)
                    obtain ⟨m', rfl⟩ : ∃ m', m = m' + 1 := ⟨m - 1, by omega⟩
                    have ih := law_pattern P m' y hy (by omega) (wt y (by simp)) n S
                    have ef : n + (m' + 1) + 1 = n + m' + 2 := by omega
                    rw [ef]
                    simp [f22_L_is_pattern, isTy, eq_empty hd, sub0, sub1, in_leaves hd, cmp_eq (eqD_str dT dS S), cmp_eq (eqD_str dT dT S), isP, isPt, ih]
                  | [y, z], _, _ => simp [f22_L_is_pattern, isTy, eq_empty hd, sub0, in_leaves hd, cmp_eq (eqD_str dT dS S), cmp_eq (eqD_str dT dT S), isP, isPt]
                  | y :: z :: u :: r, _, _ =>
                    have hh : ¬ ((r.length : Int) + 1 + 1 + 1 + 1 = 2) := by omega
                    simp [f22_L_is_pattern, isTy, eq_empty hd, sub0, in_leaves hd, cmp_eq (eqD_str dT dS S), cmp_eq (eqD_str dT dT S), isP, isPt, hh]
                · have n2 : decide (s = sStar) = false := by simpa using q3
                  match r, he, wt, q1 with
                  | [], _, _, q1 =>
                    have q1' : (decide (s = sNone) || decide (s = sEmpty)) = false := by simpa using q1
                    have hp : isP (.tup [.str s]) = false := q1'
                    rw [hp]
                    cases q5 : (decide (s = sOr) || decide (s = sThen)) <;> simp [f22_L_is_pattern, isTy, eq_empty hd, sub0, in_leaves hd, q1', cmp_eq (eqD_str hs dS S), cmp_eq (eqD_str hs dT S), n1, n2, in_two' hs dO dH, q5]
                  | [y], _, _, _ =>
                    have hp : isP (.tup [.str s, y]) = false := by simp [isP, isPt, q2, q3]
                    rw [hp]
                    cases q5 : (decide (s = sOr) || decide (s = sThen)) <;> simp [f22_L_is_pattern, isTy, eq_empty hd, sub0, in_leaves hd, cmp_eq (eqD_str hs dS S), cmp_eq (eqD_str hs dT S), n1, n2, in_two' hs dO dH, q5]
                  | [y, z], he, wt, _ =>
                    have hp : isP (.tup [.str s, y, z]) = ((decide (s = sOr) || decide (s = sThen)) && (isP y && isP z)) := rfl
                    rw [hp]
                    cases q5 : (decide (s = sOr) || decide (s = sThen)) with
                    | false => simp [f22_L_is_pattern, isTy, eq_empty hd, sub0, in_leaves hd, cmp_eq (eqD_str hs dS S), cmp_eq (eqD_str hs dT S), n1, n2, in_two' hs dO dH, q5]
                    | true =>
                      obtain ⟨hy, hdy⟩ := he y (by simp)
                      obtain ⟨hz, hdz⟩ := he z (by simp)
                      obtain ⟨m', rfl⟩ : ∃ m', m = m' + 1 := ⟨m - 1, by omega⟩
                      have i1 := law_pattern P m' y hy (by omega) (wt y (by simp)) n S
                      have i2 := law_pattern P m' z hz (by omega) (wt z (by simp)) n S
                      have ef : n + (m' + 1) + 1 = n + m' + 2 := by omega
                      rw [ef]
                      cases q6 : isP y <;> simp [f22_L_is_pattern, isTy, eq_empty hd, sub0, sub1, sub2, in_leaves hd, cmp_eq (eqD_str hs dS S), cmp_eq (eqD_str hs dT S), n1, n2, in_two' hs dO dH, q5, i1, i2, q6]
                  | y :: z :: u :: r, _, _, _ =>
                    have hh : ¬ ((r.length : Int) + 1 + 1 + 1 + 1 = 3) := by omega
                    have hp : isP (.tup (.str s :: y :: z :: u :: r)) = false := by simp [isP, isPt]
                    rw [hp]
                    cases q5 : (decide (s = sOr) || decide (s = sThen)) <;> simp [f22_L_is_pattern, isTy, eq_empty hd, sub0, in_leaves hd, cmp_eq (eqD_str hs dS S), cmp_eq (eqD_str hs dT S), n1, n2, in_two' hs dO dH, q5, hh]
          · have hne : ∀ s, e ≠ .str s := fun s h => hstr ⟨s, h⟩
            rw [isP_untag hne]
            simp [f22_L_is_pattern, isTy_tup, eq_empty hd, sub0, isTy_str (he e List.mem_cons_self).1.fl hne]
      | _ => simp [f22_L_is_pattern, isTy, isP]
    show endD S (evSs (callN Φ (n + m + 1)) f22_L_is_pattern.body [some d] S) = _
    rw [go]
    simp [gc_self]
  termination_by m => m
end SL
set_option Elab.async false
set_option linter.all false
set_option maxRecDepth 100000
set_option maxHeartbeats 2000000
/-! C3: what a law draws. -/
namespace SL
open PySem
structure PhiD (Φ : Nat → Option Def) : Prop where
  h11 : Φ 11 = some f11_L_mixed
  h12 : Φ 12 = some f12_L_pile
  h13 : Φ 13 = some f13_L_take
  h14 : Φ 14 = some f14_L_letters
  h15 : Φ 15 = some f15_L_leaf
  h16 : Φ 16 = some f16_L_pattern
variable {Φ : Nat → Option Def}
/-! ### lists of the store -/
theorem sub_ref0 {S : Sto} {k : Nat} {d : D} {r : List D} (h : S[k]? = some (.lst (d :: r))) : subD (.ref k) (.int 0) S = .ok d S := by simp [subD, seqOf, items, h, placeOf]
theorem sub_ref1 {S : Sto} {k : Nat} {d e : D} {r : List D} (h : S[k]? = some (.lst (d :: e :: r))) : subD (.ref k) (.int 1) S = .ok e S := by
  have q : (1 : Int) < (r.length : Int) + 1 + 1 := by omega
  simp [subD, seqOf, items, h, placeOf, q]
theorem put_ref0 {S : Sto} {k : Nat} {d x : D} {r : List D} (h : S[k]? = some (.lst (d :: r))) : putD (.ref k) (.int 0) x S = .ok () (S.set k (.lst (x :: r))) := by simp [putD, putL, h, placeOf]
theorem put_ref1 {S : Sto} {k : Nat} {d e x : D} {r : List D} (h : S[k]? = some (.lst (d :: e :: r))) : putD (.ref k) (.int 1) x S = .ok () (S.set k (.lst (d :: x :: r))) := by
  have q : (1 : Int) < (r.length : Int) + 1 + 1 := by omega
  simp [putD, putL, h, placeOf, q]
theorem aug_ref0 {S : Sto} {k : Nat} {d : D} {r : List D} (h : S[k]? = some (.lst (d :: r))) : augGet (.ref k) (.int 0) S = .ok d S := by simp [augGet, items, h, placeOf]
theorem aug_ref1 {S : Sto} {k : Nat} {d e : D} {r : List D} (h : S[k]? = some (.lst (d :: e :: r))) : augGet (.ref k) (.int 1) S = .ok e S := by
  have q : (1 : Int) < (r.length : Int) + 1 + 1 := by omega
  simp [augGet, items, h, placeOf, q]
@[simp] theorem aug_sub (i j : Int) (S : Sto) : augD .sub (.int i) (.int j) S = .ok (.int (i - j)) S := rfl
@[simp] theorem aug_add (i j : Int) (S : Sto) : augD .add (.int i) (.int j) S = .ok (.int (i + j)) S := rfl
@[simp] theorem int_int (i : Int) (S : Sto) : bltD .int [.int i] S = .ok (.int i) S := rfl
@[simp] theorem int_bl (b : Bool) (S : Sto) : bltD .int [.bl b] S = .ok (.int (if b then 1 else 0)) S := rfl
@[simp] theorem bin_add (i j : Int) (S : Sto) : binD .add (.int i) (.int j) S = .ok (.int (i + j)) S := rfl
@[simp] theorem bin_sub (i j : Int) (S : Sto) : binD .sub (.int i) (.int j) S = .ok (.int (i - j)) S := rfl
theorem bin_mod {i j : Int} (h : 0 < j) (S : Sto) : binD .mod (.int i) (.int j) S = .ok (.int (i % j)) S := by simp [binD, h]
theorem bin_fdiv {i j : Int} (h : 0 < j) (h2 : j < 1073741824) (S : Sto) : binD .fdiv (.int i) (.int j) S = .ok (.int (i / j)) S := by simp [binD, h, h2]
theorem bin_mul {i j : Int} (h : small i = true ∨ small j = true) (S : Sto) : binD .mul (.int i) (.int j) S = .ok (.int (i * j)) S := by
  rcases h with h | h <;> simp [binD, h]
theorem small_of {i : Int} (h : -18446744073709551616 < i) (h2 : i < 18446744073709551616) : small i = true := by
  unfold small
  rw [Bool.and_eq_true]
  exact ⟨decide_eq_true h, decide_eq_true h2⟩
theorem gc_ref (S : Sto) (k : Nat) (S' : Sto) : gc S (.ref k) S' = S' := by
  unfold gc
  rw [if_neg]
  rintro ⟨⟨n, h⟩, _⟩
  cases n <;> exact h
/-! ### loops -/
theorem forL_inv {bd : D → FS → Sto → SO} {I : FS → Prop} {S : Sto} : ∀ {xs : List D} {f : FS}, (∀ d ∈ xs, ∀ f, I f → ∃ f', bd d f S = .nx f' S ∧ I f') → I f → ∃ f', forL [] bd xs f S = .nx f' S ∧ I f'
  | [], f, _, hi => ⟨f, by unfold forL; rw [if_pos (chk_nil S)], hi⟩
  | d :: ds, f, h, hi => by
    obtain ⟨f1, e1, i1⟩ := h d List.mem_cons_self f hi
    obtain ⟨f2, e2, i2⟩ := forL_inv (xs := ds) (fun x hx => h x (List.mem_cons_of_mem _ hx)) i1
    refine ⟨f2, ?_, i2⟩
    unfold forL
    rw [if_pos (chk_nil S), e1]
    exact e2
theorem range_ok {i : Int} (h : 0 ≤ i) (h2 : i ≤ 1000) (S : Sto) : rng1D (.int i) S = .ok ⟨[], upFrom 0 i.toNat⟩ S := by
  have e : rangeD 0 i = some ⟨[], upFrom 0 i.toNat⟩ := by
    unfold rangeD
    rw [if_pos (by omega)]
    simp
  simp [rng1D, e]
/-! ### draws -/
theorem take_ok (P : PhiD Φ) {n k : Nat} {p m : Int} {S : Sto} (h : S[k]? = some (.lst [.int p])) (h1 : 0 < m) (h2 : m < 1073741824) : callN Φ (n + 1) 13 [.ref k, .int m] S = .ok (.int (p % m)) (S.set k (.lst [.int (p / m)])) := by
  rw [call_of P.h13 n _ S ⟨rfl, by decide⟩]
  show endD S (evSs (callN Φ n) f13_L_take.body [some (.ref k), some (.int m), none] S) = _
  have go : evSs (callN Φ n) f13_L_take.body [some (.ref k), some (.int m), none] S = .ret (.int (p % m)) (S.set k (.lst [.int (p / m)])) := by
    simp [f13_L_take, sub_ref0 h, bin_mod h1, bin_fdiv h1 h2, put_ref0 h]
  rw [go]
  simp [gc_len]
theorem mixed_ok (P : PhiD Φ) {n : Nat} {a b : Int} {S : Sto} : ∃ v : Int, callN Φ (n + 1) 11 [.int a, .int b] S = .ok (.int v) S := by
  rw [call_of P.h11 n _ S ⟨rfl, by decide⟩]
  have s1 : small (a % 2147483647) = true := small_of (by omega) (by omega)
  have s2 : small 69621 = true := small_of (by omega) (by omega)
  obtain ⟨x, hx⟩ : ∃ x, x = (a % 2147483647 * 48271 + b * 69621 + 1048583) % 2147483629 := ⟨_, rfl⟩
  have s3 : small x = true := small_of (by omega) (by omega)
  obtain ⟨y, hy⟩ : ∃ y, y = (x * x) % 2147483587 := ⟨_, rfl⟩
  have s4 : small y = true := small_of (by omega) (by omega)
  have go : evSs (callN Φ n) f11_L_mixed.body [some (.int a), some (.int b), none] S = .ret (.int (y * (y + 2) % 2147483579)) S := by
    simp [f11_L_mixed, bin_mod, bin_mul (.inl s1), bin_mul (.inr s2), ← hx, bin_mul (.inl s3), ← hy, bin_mul (.inl s4)]
  refine ⟨y * (y + 2) % 2147483579, ?_⟩
  show endD S (evSs (callN Φ n) f11_L_mixed.body [some (.int a), some (.int b), none] S) = _
  rw [go]
  simp only [endD_ret, gc_self]
theorem pow18 (S : Sto) : binD .pow (.int 10) (.int 18) S = .ok (.int 1000000000000000000) S := by
  have : small 10 = true := small_of (by omega) (by omega)
  simp [binD, this]
abbrev t60 : Int := 1000000000000000000000000000000000000000000000000000000000000
abbrev t120 : Int := 1000000000000000000000000000000000000000000000000000000000000000000000000000000000000000000000000000000000000000000000000
abbrev t180 : Int := 1000000000000000000000000000000000000000000000000000000000000000000000000000000000000000000000000000000000000000000000000000000000000000000000000000000000000000000000000000000000000
abbrev t240 : Int := 1000000000000000000000000000000000000000000000000000000000000000000000000000000000000000000000000000000000000000000000000000000000000000000000000000000000000000000000000000000000000000000000000000000000000000000000000000000000000000000000000
theorem pow60 (S : Sto) : binD .pow (.int 10) (.int 60) S = .ok (.int t60) S := by
  have h : small 10 = true := small_of (by omega) (by omega)
  have e : ((10 : Int) ^ (60 : Int).toNat) = t60 := by rfl
  simp only [binD]
  rw [if_pos ⟨by decide, by decide, h⟩, e]
theorem wide_mul {i j k : Int} (h1 : wide i = true) (h2 : wide j = true) (e : i * j = k) (S : Sto) : binD .mul (.int i) (.int j) S = .ok (.int k) S := by
  subst e
  simp only [binD, h1, h2]
  rw [if_pos (by simp)]
theorem w60 : wide t60 = true := by decide +kernel
theorem w120 : wide t120 = true := by decide +kernel
theorem w180 : wide t180 = true := by decide +kernel
theorem m1 (S : Sto) : binD .mul (.int t60) (.int t60) S = .ok (.int t120) S := wide_mul w60 w60 (by rfl) S
theorem m2 (S : Sto) : binD .mul (.int t120) (.int t60) S = .ok (.int t180) S := wide_mul w120 w60 (by rfl) S
theorem m3 (S : Sto) : binD .mul (.int t180) (.int t60) S = .ok (.int t240) S := wide_mul w180 w60 (by rfl) S
theorem p240 : (0 : Int) < t240 := by decide
end SL
set_option Elab.async false
set_option linter.all false
set_option maxRecDepth 100000
set_option maxHeartbeats 2000000
namespace SL
open PySem
variable {Φ : Nat → Option Def}
def pileTail : Ss := (.cons (.ifs (.cmp .ge (.var 2) (.bin .pow (.cst (.int 10)) (.cst (.int 18)))) (.cons (.ret (.newL (.cons (.bin .mod (.blt .int (.cons (.bin .sub (.var 2) (.bin .pow (.cst (.int 10)) (.cst (.int 18)))) .nil)) (.bin .mul (.bin .mul (.bin .mul (.bin .pow (.cst (.int 10)) (.cst (.int 60))) (.bin .pow (.cst (.int 10)) (.cst (.int 60)))) (.bin .pow (.cst (.int 10)) (.cst (.int 60)))) (.bin .pow (.cst (.int 10)) (.cst (.int 60))))) .nil))) .nil) .nil) (.cons (.asg (.name 3) (.cst (.int 0))) (.cons (.fors (.name 4) (.range1 (.cst (.int 24))) (.cons (.asg (.name 3) (.bin .add (.bin .mul (.var 3) (.cst (.int 2147483579))) (.call 11 (.cons (.var 2) (.cons (.bin .add (.bin .add (.bin .mul (.cst (.int 7)) (.var 1)) (.bin .mul (.cst (.int 100)) (.var 4))) (.bin .mul (.var 4) (.var 4))) .nil))))) .nil)) (.cons (.ret (.newL (.cons (.var 3) .nil))) .nil))))
def pileRest : Ss := (.cons (.asg (.name 3) (.cst (.int 0))) (.cons (.fors (.name 4) (.range1 (.cst (.int 24))) (.cons (.asg (.name 3) (.bin .add (.bin .mul (.var 3) (.cst (.int 2147483579))) (.call 11 (.cons (.var 2) (.cons (.bin .add (.bin .add (.bin .mul (.cst (.int 7)) (.var 1)) (.bin .mul (.cst (.int 100)) (.var 4))) (.bin .mul (.var 4) (.var 4))) .nil))))) .nil)) (.cons (.ret (.newL (.cons (.var 3) .nil))) .nil)))
theorem pile_big {c : Nat → List D → Sto → Out D} {f : FS} {cell : Int} {S : Sto} {a b d e : Option D} (hc : 1000000000000000000 ≤ cell) : evSs c pileTail [a, b, some (.int cell), d, e] S = .ret (.ref S.length) (S ++ [.lst [.int ((cell - 1000000000000000000) % t240)]]) := by
  simp only [pileTail, evSs_cons, evS_ifs, ev_cmp, ev_var, ev_bin, ev_cst, getS_zero, getS_succ, Out.ok_bind, pow18, cmp_ge_int, decide_eq_true hc, Out.so_ok, ifD_true, evS_ret, ev_new, ev_lst, evs_cons, evs_nil, ev_blt, bin_sub, int_int, pow60, m1, m2, m3, bin_mod p240, List.length_cons, List.length_nil, Nat.zero_add, le_sz 1 (by decide), if_true, newD, thenS_ret]
theorem pile_small {c : Nat → List D → Sto → Out D} {f : FS} {cell : Int} {S : Sto} {a b d e : Option D} (hc : ¬ 1000000000000000000 ≤ cell) : evSs c pileTail [a, b, some (.int cell), d, e] S = evSs c pileRest [a, b, some (.int cell), d, e] S := by
  have hc' : decide (1000000000000000000 ≤ cell) = false := by simpa using hc
  simp only [pileTail, pileRest, evSs_cons, evS_ifs, ev_cmp, ev_var, ev_bin, ev_cst, getS_zero, getS_succ, Out.ok_bind, pow18, cmp_ge_int, hc', Out.so_ok, ifD_false, evSs_nil, thenS_nx]
def pileTurn : Ss := (.cons (.asg (.name 3) (.bin .add (.bin .mul (.var 3) (.cst (.int 2147483579))) (.call 11 (.cons (.var 2) (.cons (.bin .add (.bin .add (.bin .mul (.cst (.int 7)) (.var 1)) (.bin .mul (.cst (.int 100)) (.var 4))) (.bin .mul (.var 4) (.var 4))) .nil))))) .nil)
theorem pile_turn (P : PhiD Φ) {n : Nat} {a : Option D} {k cell q j : Int} {o : Option D} {S : Sto} (h0 : 0 ≤ j) (h1 : j < 24) : ∃ q' : Int, forB (.name 4) (evSs (callN Φ (n + 1)) pileTurn) (.int j) [a, some (.int k), some (.int cell), some (.int q), o] S = .nx [a, some (.int k), some (.int cell), some (.int q'), some (.int j)] S := by
  obtain ⟨v, hv⟩ := mixed_ok P (n := n) (a := cell) (b := 7 * k + 100 * j + j * j) (S := S)
  have s1 : small 2147483579 = true := small_of (by omega) (by omega)
  have s2 : small 7 = true := small_of (by omega) (by omega)
  have s3 : small 100 = true := small_of (by omega) (by omega)
  have s4 : small j = true := small_of (by omega) (by omega)
  refine ⟨q * 2147483579 + v, ?_⟩
  simp only [pileTurn, forB, bind_name, setAt_succ, setAt_zero, evSs_cons, evS_asg, ev_bin, ev_var, ev_cst, getS_zero, getS_succ, Out.ok_bind, bin_mul (.inr s1), ev_call, evs_cons, evs_nil, bin_mul (.inl s2), bin_mul (.inl s3), bin_mul (.inl s4), bin_add, hv, Out.so_ok, asg_name, thenS_nx, evSs_nil]
theorem pile_rest (P : PhiD Φ) {n : Nat} {a : Option D} {k cell : Int} {d e : Option D} {S : Sto} : ∃ p : Int, evSs (callN Φ (n + 1)) pileRest [a, some (.int k), some (.int cell), d, e] S = .ret (.ref S.length) (S ++ [.lst [.int p]]) := by
  obtain ⟨f', e1, q, o, rfl⟩ := forL_inv (bd := forB (.name 4) (evSs (callN Φ (n + 1)) pileTurn)) (I := fun f => ∃ (q : Int) (o : Option D), f = [a, some (.int k), some (.int cell), some (.int q), o]) (S := S) (xs := upFrom 0 24) (f := [a, some (.int k), some (.int cell), some (.int 0), e])
    (fun x hx f hf => by
      obtain ⟨q, o, rfl⟩ := hf
      obtain ⟨j, hj, rfl⟩ := List.mem_map.mp hx
      have hj' : j < 24 := List.mem_range.mp hj
      obtain ⟨q', e⟩ := pile_turn P (n := n) (a := a) (k := k) (cell := cell) (q := q) (o := o) (S := S) (j := 0 + (j : Int)) (by omega) (by omega)
      exact ⟨_, e, q', _, rfl⟩) ⟨0, e, rfl⟩
  refine ⟨q, ?_⟩
  have r1 : rng1D (.int 24) S = .ok ⟨[], upFrom 0 24⟩ S := range_ok (by decide) (by decide) S
  have e2 : forL [] (forB (.name 4) (evSs (callN Φ (n + 1)) (.cons (.asg (.name 3) (.bin .add (.bin .mul (.var 3) (.cst (.int 2147483579))) (.call 11 (.cons (.var 2) (.cons (.bin .add (.bin .add (.bin .mul (.cst (.int 7)) (.var 1)) (.bin .mul (.cst (.int 100)) (.var 4))) (.bin .mul (.var 4) (.var 4))) .nil))))) .nil))) (upFrom 0 24) [a, some (.int k), some (.int cell), some (.int 0), e] S = .nx [a, some (.int k), some (.int cell), some (.int q), o] S := e1
  simp only [pileRest, evSs_cons, evS_asg, ev_cst, Out.so_ok, asg_name, setAt_succ, setAt_zero, thenS_nx, evS_fors, evi_r1, Out.ok_bind, r1, e2, evS_ret, ev_new, ev_lst, evs_cons, evs_nil, ev_var, getS_zero, getS_succ, List.length_cons, List.length_nil, Nat.zero_add, le_sz 1 (by decide), if_true, newD, thenS_ret]
theorem pile_ok (P : PhiD Φ) {n : Nat} {ns : List Int} {k : Nat} {S : Sto} : ∃ p : Int, callN Φ (n + 2) 12 [.scr ns, .int k] S = .ok (.ref S.length) (S ++ [.lst [.int p]]) := by
  rw [call_of P.h12 (n + 1) _ S ⟨rfl, by decide⟩]
  have go : ∃ cell : Int, evSs (callN Φ (n + 1)) f12_L_pile.body [some (.scr ns), some (.int k), none, none, none] S = evSs (callN Φ (n + 1)) pileTail [some (.scr ns), some (.int k), some (.int cell), none, none] S := by
    have hlen : bltD .len [.scr ns] S = .ok (.int ns.length) S := by simp [bltD, seqOf]
    by_cases hk : k < ns.length
    · have hk' : decide ((k : Int) < (ns.length : Int)) = true := decide_eq_true (by omega)
      have hs : subD (.scr ns) (.int k) S = .ok (.int ns[k]) S := by
        have q : (k : Int) < (ns.length : Int) := by omega
        simp [subD, seqOf, placeOf, q, hk]
      refine ⟨ns[k], ?_⟩
      show thenS (evSs _ (.cons _ pileTail)) (evS _ _ _ S) = _
      simp only [evSs_cons, evS_asg, ev_cst, Out.so_ok, asg_name, setAt_succ, setAt_zero, thenS_nx, evS_ifs, ev_cmp, ev_var, getS_zero, getS_succ, Out.ok_bind, ev_blt, evs_cons, evs_nil, hlen, cmp_lt_int, hk', ifD_true, ev_sub, hs, evSs_nil]
    · have hk' : decide ((k : Int) < (ns.length : Int)) = false := decide_eq_false (by omega)
      refine ⟨0, ?_⟩
      show thenS (evSs _ (.cons _ pileTail)) (evS _ _ _ S) = _
      simp only [evSs_cons, evS_asg, ev_cst, Out.so_ok, asg_name, setAt_succ, setAt_zero, thenS_nx, evS_ifs, ev_cmp, ev_var, getS_zero, getS_succ, Out.ok_bind, ev_blt, evs_cons, evs_nil, hlen, cmp_lt_int, hk', ifD_false, evSs_nil]
  obtain ⟨cell, hcell⟩ := go
  have fin : ∃ p : Int, evSs (callN Φ (n + 1)) pileTail [some (.scr ns), some (.int k), some (.int cell), none, none] S = .ret (.ref S.length) (S ++ [.lst [.int p]]) := by
    by_cases hc : 1000000000000000000 ≤ cell
    · exact ⟨_, pile_big (f := []) hc⟩
    · rw [pile_small (f := []) hc]; exact pile_rest P
  obtain ⟨p, hp⟩ := fin
  refine ⟨p, ?_⟩
  show endD S (evSs (callN Φ (n + 1)) f12_L_pile.body [some (.scr ns), some (.int k), none, none, none] S) = _
  rw [hcell, hp]
  simp only [endD_ret, gc_ref]
end SL
set_option Elab.async false
set_option linter.all false
set_option maxRecDepth 100000
set_option maxHeartbeats 2000000
/-! C4: drawn patterns. -/
namespace SL
open PySem
variable {Φ : Nat → Option Def}
/-- a pattern of height at most h, and its size -/
structure Pt (h : Nat) (x : D) : Prop where
  p : isP x = true
  fl : flat x = true
  lay : (toP x).canLay0 = true
  dep : (toP x).depth ≤ h + 1
  wt : (toP x).weight + 10 ≤ 20 * 2 ^ h
  sh : (toP x).showable = true
  si : (toP x).intsShort 13 = true
theorem Pt.mono {h h' : Nat} {x : D} (q : Pt h x) (le : h ≤ h') : Pt h' x := ⟨q.p, q.fl, q.lay, by have := q.dep; omega, by
  have := q.wt
  have e : 2 ^ h ≤ 2 ^ h' := Nat.pow_le_pow_right (by decide +kernel) le
  omega, q.sh, q.si⟩
theorem pt_leaf {s : List Nat} (hs : s = sNone ∨ s = sEmpty) : Pt 0 (.tup [.str s]) := by
  rcases hs with rfl | rfl
  · exact ⟨by decide +kernel, by decide +kernel, by decide +kernel, by decide +kernel, by decide +kernel, by decide +kernel, by decide +kernel⟩
  · exact ⟨by decide +kernel, by decide +kernel, by decide +kernel, by decide +kernel, by decide +kernel, by decide +kernel, by decide +kernel⟩
theorem pt_sign {c : Nat} (hc : c ∈ sigs) : Pt 0 (.tup [.str sSign, .str [c]]) := by
  have : c = 97 ∨ c = 98 ∨ c = 99 ∨ c = 100 ∨ c = 101 ∨ c = 102 ∨ c = 103 ∨ c = 104 := by simpa using hc
  rcases this with rfl | rfl | rfl | rfl | rfl | rfl | rfl | rfl <;> exact ⟨by decide +kernel, by decide +kernel, by decide +kernel, by decide +kernel, by decide +kernel, by decide +kernel, by decide +kernel⟩
theorem pt_star {h : Nat} {x : D} (q : Pt h x) : Pt (h + 1) (.tup [.str sStar, x]) := by
  have w := q.wt
  have e : 20 * 2 ^ (h + 1) = 2 * (20 * 2 ^ h) := by rw [Nat.pow_succ]; omega
  refine ⟨by simp [isP, isPt, q.p], by simp [flat, flats, q.fl], ?_, ?_, ?_, ?_, ?_⟩
  · have l : PyData.strOk (⟨sStar.toArray⟩ : Str) = true := by decide +kernel
    simp [toP, toPs, PyData.canLay0, PyData.canLayAll0, q.lay, l]
  · simp only [toP, toPs, PyData.depth, PyData.depthAll]
    have := q.dep
    omega
  · simp only [toP, toPs, PyData.weight, PyData.weightAll]
    simp
    omega
  · simp [toP, toPs, PyData.showable, PyData.showableAll, q.sh]
  · simp [toP, toPs, PyData.intsShort, PyData.intsShortAll, q.si]
theorem pt_two {h : Nat} {s : List Nat} {x y : D} (hs : s = sOr ∨ s = sThen) (q : Pt h x) (r : Pt h y) : Pt (h + 1) (.tup [.str s, x, y]) := by
  have w := q.wt
  have w2 := r.wt
  have e : 20 * 2 ^ (h + 1) = 2 * (20 * 2 ^ h) := by rw [Nat.pow_succ]; omega
  have l : PyData.strOk (⟨s.toArray⟩ : Str) = true ∧ s.length ≤ 4 := by rcases hs with rfl | rfl <;> decide +kernel
  refine ⟨by rcases hs with rfl | rfl <;> simp [isP, isPt, q.p, r.p], by simp [flat, flats, q.fl, r.fl], ?_, ?_, ?_, ?_, ?_⟩
  · simp [toP, toPs, PyData.canLay0, PyData.canLayAll0, q.lay, r.lay, l.1]
  · simp only [toP, toPs, PyData.depth, PyData.depthAll]
    have := q.dep
    have := r.dep
    omega
  · simp only [toP, toPs, PyData.weight, PyData.weightAll]
    simp
    have := l.2
    omega
  · simp [toP, toPs, PyData.showable, PyData.showableAll, q.sh, r.sh]
  · simp [toP, toPs, PyData.intsShort, PyData.intsShortAll, q.si, r.si]
/-- what a draw does to the store -/
structure Eff (S S' : Sto) (k j : Nat) : Prop where
  len : S'.length = S.length
  out : ∀ i, i ≠ k → i ≠ j → S'[i]? = S[i]?
  pile : ∃ p : Int, S'[k]? = some (.lst [.int p])
  room : ∃ a b : Int, S'[j]? = some (.lst [.int a, .int b])
theorem Eff.trans {S S1 S2 : Sto} {k j : Nat} (a : Eff S S1 k j) (b : Eff S1 S2 k j) : Eff S S2 k j :=
  ⟨b.len.trans a.len, fun i h1 h2 => (b.out i h1 h2).trans (a.out i h1 h2), b.pile, b.room⟩
theorem Eff.setk {S S1 : Sto} {k j : Nat} {p : Int} (hkj : k ≠ j) (e : Eff S S1 k j) : Eff S (S1.set k (.lst [.int p])) k j := by
  obtain ⟨p0, h0⟩ := e.pile
  have lk : k < S1.length := (List.getElem?_eq_some_iff.mp h0).1
  obtain ⟨a, b, hr⟩ := e.room
  exact ⟨by rw [List.length_set]; exact e.len, fun i h1 h2 => by rw [List.getElem?_set_ne (Ne.symm h1)]; exact e.out i h1 h2, ⟨p, List.getElem?_set_self lk⟩, ⟨a, b, by rw [List.getElem?_set_ne hkj]; exact hr⟩⟩
theorem Eff.setj {S S1 : Sto} {k j : Nat} {a b : Int} (hkj : k ≠ j) (e : Eff S S1 k j) : Eff S (S1.set j (.lst [.int a, .int b])) k j := by
  obtain ⟨p0, h0⟩ := e.pile
  obtain ⟨a0, b0, hr⟩ := e.room
  have lj : j < S1.length := (List.getElem?_eq_some_iff.mp hr).1
  exact ⟨by rw [List.length_set]; exact e.len, fun i h1 h2 => by rw [List.getElem?_set_ne (Ne.symm h2)]; exact e.out i h1 h2, ⟨p0, by rw [List.getElem?_set_ne (Ne.symm hkj)]; exact h0⟩, ⟨a, b, List.getElem?_set_self lj⟩⟩
/-- letters to draw from -/
structure Let (L : List Nat) : Prop where
  ne : L ≠ []
  le : L.length ≤ 8
  sg : ∀ c ∈ L, c ∈ sigs
theorem take_eff (P : PhiD Φ) {n k j : Nat} {m : Int} {S S1 : Sto} (hkj : k ≠ j) (e : Eff S S1 k j) (h1 : 0 < m) (h2 : m < 1073741824) : ∃ (t : Int) (S2 : Sto), callN Φ (n + 1) 13 [.ref k, .int m] S1 = .ok (.int t) S2 ∧ 0 ≤ t ∧ t < m ∧ Eff S S2 k j := by
  obtain ⟨p, hp⟩ := e.pile
  exact ⟨_, _, take_ok P hp h1 h2, Int.emod_nonneg _ (by omega), Int.emod_lt_of_pos _ h1, e.setk hkj⟩
theorem pick0 (x y : D) (S : Sto) : subD (.lst [x, y]) (.int 0) S = .ok x S := by simp [subD, seqOf, items, placeOf]
theorem pick1 (x y : D) (S : Sto) : subD (.lst [x, y]) (.int 1) S = .ok y S := by simp [subD, seqOf, items, placeOf]
theorem leaf_ok (P : PhiD Φ) {n k j : Nat} {L : List Nat} {S0 S : Sto} (hkj : k ≠ j) (e : Eff S0 S k j) (hL : Let L) : ∃ x S', callN Φ (n + 2) 15 [.ref k, .str L, .ref j] S = .ok x S' ∧ Eff S0 S' k j ∧ Pt 0 x := by
  rw [call_of P.h15 (n + 1) _ S ⟨rfl, by decide⟩]
  obtain ⟨w, S1, t1, w0, w9, e1⟩ := take_eff P (n := n) (m := 9) hkj e (by decide) (by decide)
  obtain ⟨a, b, hr⟩ := e1.room
  have e2 : Eff S0 (S1.set j (.lst [.int a, .int (b - 1)])) k j := e1.setj hkj
  obtain ⟨S2, hS2⟩ : ∃ S2, S2 = S1.set j (.lst [.int a, .int (b - 1)]) := ⟨_, rfl⟩
  rw [← hS2] at e2
  have r2 : S2[j]? = some (.lst [.int a, .int (b - 1)]) := by rw [hS2]; exact List.getElem?_set_self (List.getElem?_eq_some_iff.mp hr).1
  have go : ∃ x S', evSs (callN Φ (n + 1)) f15_L_leaf.body [some (.ref k), some (.str L), some (.ref j), none] S = .ret x S' ∧ Eff S0 S' k j ∧ Pt 0 x := by
    by_cases hz : w = 0 ∨ a = 0
    · obtain ⟨t, S3, t3, _, _, e3⟩ := take_eff P (n := n) (m := 5) hkj e2 (by decide) (by decide)
      by_cases ht : t = 0
      · refine ⟨.tup [.str sNone], S3, ?_, e3, pt_leaf (.inl rfl)⟩
        by_cases hw : w = 0
        · simp [f15_L_leaf, t1, aug_ref1 hr, put_ref1 hr, ← hS2, hw, t3, ht, pick0, pick1]
        · have ha : a = 0 := hz.resolve_left hw
          subst ha
          simp [f15_L_leaf, t1, aug_ref1 hr, put_ref1 hr, ← hS2, hw, sub_ref0 r2, t3, ht, pick0, pick1]
      · refine ⟨.tup [.str sEmpty], S3, ?_, e3, pt_leaf (.inr rfl)⟩
        by_cases hw : w = 0
        · simp [f15_L_leaf, t1, aug_ref1 hr, put_ref1 hr, ← hS2, hw, t3, ht, pick0, pick1]
        · have ha : a = 0 := hz.resolve_left hw
          subst ha
          simp [f15_L_leaf, t1, aug_ref1 hr, put_ref1 hr, ← hS2, hw, sub_ref0 r2, t3, ht, pick0, pick1]
    · have hw : ¬ w = 0 := fun q => hz (.inl q)
      have ha : ¬ a = 0 := fun q => hz (.inr q)
      have e3 : Eff S0 (S2.set j (.lst [.int (a - 1), .int (b - 1)])) k j := e2.setj hkj
      obtain ⟨S3, hS3⟩ : ∃ S3, S3 = S2.set j (.lst [.int (a - 1), .int (b - 1)]) := ⟨_, rfl⟩
      rw [← hS3] at e3
      have hl0 : 0 < L.length := List.length_pos_iff.mpr hL.ne
      have hl8 := hL.le
      obtain ⟨t, S4, t4, q0, q1, e4⟩ := take_eff P (n := n) (m := (L.length : Int)) hkj e3 (by omega) (by omega)
      have hi : t.toNat < L.length := by omega
      have hsub : subD (.str L) (.int t) S4 = .ok (.str [L[t.toNat]]) S4 := by
        have q2 : L.length ≤ sz := by show L.length ≤ 16777216; omega
        simp [subD, placeOf, q0, q1, q2, hi]
      refine ⟨.tup [.str sSign, .str [L[t.toNat]]], S4, ?_, e4, pt_sign (hL.sg _ (List.getElem_mem hi))⟩
      have hlen : bltD .len [.str L] S3 = .ok (.int L.length) S3 := len_str L (by show L.length ≤ 16777216; omega) S3
      simp [f15_L_leaf, t1, aug_ref1 hr, put_ref1 hr, ← hS2, hw, sub_ref0 r2, ha, aug_ref0 r2, put_ref0 r2, ← hS3, hlen, t4, hsub]
  obtain ⟨x, S', h1, h2, h3⟩ := go
  refine ⟨x, S', ?_, h2, h3⟩
  show endD S (evSs (callN Φ (n + 1)) f15_L_leaf.body [some (.ref k), some (.str L), some (.ref j), none] S) = _
  rw [h1]
  simp only [endD_ret]
  rw [gc_len]
  rw [h2.len, e.len]
theorem pattern_ok (P : PhiD Φ) {k j : Nat} {L : List Nat} (hkj : k ≠ j) (hL : Let L) : ∀ (d n : Nat) (S0 S : Sto), Eff S0 S k j → ∃ x S', callN Φ (n + d + 3) 16 [.ref k, .str L, .ref j, .int d] S = .ok x S' ∧ Eff S0 S' k j ∧ Pt d x
  | d, n, S0, S, e => by
    rw [call_of P.h16 (n + d + 2) _ S ⟨rfl, by decide⟩]
    obtain ⟨w, S1, t1, w0, w9, e1⟩ := take_eff P (n := n + d + 1) (m := 10) hkj e (by decide) (by decide)
    obtain ⟨a, b, hr⟩ := e1.room
    have go : ∃ x S', evSs (callN Φ (n + d + 2)) f16_L_pattern.body [some (.ref k), some (.str L), some (.ref j), some (.int d), none, none] S = .ret x S' ∧ Eff S0 S' k j ∧ Pt d x := by
      by_cases hz : d = 0 ∨ b < 3 ∨ w < 2
      · obtain ⟨x, S2, l2, e2, p2⟩ := leaf_ok P (n := n + d) hkj e1 hL
        refine ⟨x, S2, ?_, e2, p2.mono (Nat.zero_le d)⟩
        by_cases h0 : d = 0
        · subst h0
          simp [f16_L_pattern, t1, l2]
        · have h0' : ¬ (d : Int) = 0 := by omega
          by_cases h1 : b < 3
          · simp [f16_L_pattern, t1, h0, h0', sub_ref1 hr, h1, l2]
          · have h2 : w < 2 := by omega
            simp [f16_L_pattern, t1, h0, h0', sub_ref1 hr, h1, h2, l2]
      · have h0' : ¬ (d : Int) = 0 := by omega
        have h1 : ¬ b < 3 := by omega
        have h2 : ¬ w < 2 := by omega
        obtain ⟨d', rfl⟩ : ∃ d', d = d' + 1 := ⟨d - 1, by omega⟩
        have hd : (d' : Int) + 1 - 1 = (d' : Int) := by omega
        have h0'' : ¬ ((d' : Int) + 1 = 0) := by omega
        have ef : n + (d' + 1) + 2 = n + d' + 3 := by omega
        rw [ef] at t1 ⊢
        have e2 : Eff S0 (S1.set j (.lst [.int a, .int (b - 1)])) k j := e1.setj hkj
        obtain ⟨S2, hS2⟩ : ∃ S2, S2 = S1.set j (.lst [.int a, .int (b - 1)]) := ⟨_, rfl⟩
        rw [← hS2] at e2
        have r2 : S2[j]? = some (.lst [.int a, .int (b - 1)]) := by rw [hS2]; exact List.getElem?_set_self (List.getElem?_eq_some_iff.mp hr).1
        by_cases h5 : w < 5
        · obtain ⟨x, S3, c3, e3, p3⟩ := pattern_ok P hkj hL d' n S0 S2 e2
          refine ⟨.tup [.str sStar, x], S3, ?_, e3, pt_star p3⟩
          simp [f16_L_pattern, t1, h0'', sub_ref1 hr, h1, h2, aug_ref1 hr, put_ref1 hr, ← hS2, h5, hd, c3]
        · have e3 : Eff S0 (S2.set j (.lst [.int a, .int (b - 1 - 1)])) k j := e2.setj hkj
          obtain ⟨S3, hS3⟩ : ∃ S3, S3 = S2.set j (.lst [.int a, .int (b - 1 - 1)]) := ⟨_, rfl⟩
          rw [← hS3] at e3
          obtain ⟨x, S4, c4, e4, p4⟩ := pattern_ok P hkj hL d' n S0 S3 e3
          obtain ⟨a', b', r4⟩ := e4.room
          have e5 : Eff S0 (S4.set j (.lst [.int a', .int (b' + 1)])) k j := e4.setj hkj
          obtain ⟨S5, hS5⟩ : ∃ S5, S5 = S4.set j (.lst [.int a', .int (b' + 1)]) := ⟨_, rfl⟩
          rw [← hS5] at e5
          obtain ⟨y, S6, c6, e6, p6⟩ := pattern_ok P hkj hL d' n S0 S5 e5
          have hm : w % 2 = 0 ∨ w % 2 = 1 := by omega
          rcases hm with hm | hm
          · refine ⟨.tup [.str sOr, x, y], S6, ?_, e6, pt_two (.inl rfl) p4 p6⟩
            simp [f16_L_pattern, t1, h0'', sub_ref1 hr, h1, h2, aug_ref1 hr, put_ref1 hr, ← hS2, h5, aug_ref1 r2, put_ref1 r2, ← hS3, hd, c4, aug_ref1 r4, put_ref1 r4, ← hS5, bin_mod, hm, pick0, c6]
          · refine ⟨.tup [.str sThen, x, y], S6, ?_, e6, pt_two (.inr rfl) p4 p6⟩
            simp [f16_L_pattern, t1, h0'', sub_ref1 hr, h1, h2, aug_ref1 hr, put_ref1 hr, ← hS2, h5, aug_ref1 r2, put_ref1 r2, ← hS3, hd, c4, aug_ref1 r4, put_ref1 r4, ← hS5, bin_mod, hm, pick1, c6]
    obtain ⟨x, S', h1, h2, h3⟩ := go
    refine ⟨x, S', ?_, h2, h3⟩
    show endD S (evSs (callN Φ (n + d + 2)) f16_L_pattern.body [some (.ref k), some (.str L), some (.ref j), some (.int d), none, none] S) = _
    rw [h1]
    simp only [endD_ret]
    rw [gc_len]
    rw [h2.len, e.len]
  termination_by d => d
end SL
set_option Elab.async false
set_option linter.all false
set_option maxRecDepth 100000
set_option maxHeartbeats 2000000
/-! C5: letters, draws; the program's answers on patterns. -/
namespace SL
open PySem
variable {Φ : Nat → Option Def}
theorem pick7 (a b c d e f g : D) {t : Int} (h0 : 0 ≤ t) (h7 : t < 7) (S : Sto) : ∃ x ∈ [a, b, c, d, e, f, g], subD (.lst [a, b, c, d, e, f, g]) (.int t) S = .ok x S := by
  have : t = 0 ∨ t = 1 ∨ t = 2 ∨ t = 3 ∨ t = 4 ∨ t = 5 ∨ t = 6 := by omega
  rcases this with rfl | rfl | rfl | rfl | rfl | rfl | rfl
  · exact ⟨a, by simp, by simp [subD, seqOf, items, placeOf]⟩
  · exact ⟨b, by simp, by simp [subD, seqOf, items, placeOf]⟩
  · exact ⟨c, by simp, by simp [subD, seqOf, items, placeOf]⟩
  · exact ⟨d, by simp, by simp [subD, seqOf, items, placeOf]⟩
  · exact ⟨e, by simp, by simp [subD, seqOf, items, placeOf]⟩
  · exact ⟨f, by simp, by simp [subD, seqOf, items, placeOf]⟩
  · exact ⟨g, by simp, by simp [subD, seqOf, items, placeOf]⟩
theorem let_of {L : List Nat} (h : (L != [] && decide (L.length ≤ 8) && L.all fun c => decide (c ∈ sigs)) = true) : Let L := by
  simp only [Bool.and_eq_true, bne_iff_ne, decide_eq_true_eq, List.all_eq_true] at h
  exact ⟨h.1.1, h.1.2, h.2⟩
theorem letters_ok (P : PhiD Φ) {n k : Nat} {p : Int} {S : Sto} (h : S[k]? = some (.lst [.int p])) : ∃ L, callN Φ (n + 2) 14 [.ref k] S = .ok (.str L) (S.set k (.lst [.int (p / 7)])) ∧ Let L := by
  rw [call_of P.h14 (n + 1) _ S ⟨rfl, by decide⟩]
  have t := take_ok P (n := n) h (show (0 : Int) < 7 by decide) (by decide)
  obtain ⟨x, hx, hs⟩ := pick7 (.str [97]) (.str [97, 98]) (.str [97, 98]) (.str [97, 98]) (.str [97, 98, 99]) (.str [98, 104]) (.str [97, 99, 103]) (Int.emod_nonneg p (show (7 : Int) ≠ 0 by decide)) (Int.emod_lt_of_pos p (by decide)) (S.set k (.lst [.int (p / 7)]))
  have hL : ∃ L, x = .str L ∧ Let L := by
    simp only [List.mem_cons, List.not_mem_nil, or_false] at hx
    rcases hx with rfl | rfl | rfl | rfl | rfl | rfl | rfl <;> exact ⟨_, rfl, let_of (by decide)⟩
  obtain ⟨L, rfl, hL⟩ := hL
  refine ⟨L, ?_, hL⟩
  show endD S (evSs (callN Φ (n + 1)) f14_L_letters.body [some (.ref k)] S) = _
  have go : evSs (callN Φ (n + 1)) f14_L_letters.body [some (.ref k)] S = .ret (.str L) (S.set k (.lst [.int (p / 7)])) := by
    simp [f14_L_letters, t, hs]
  rw [go]
  simp [gc_len]
theorem drawn_ok (P : PhiD Φ) (h17 : Φ 17 = some f17_L_drawn) {n k : Nat} {p : Int} {L : List Nat} {S : Sto} (h : S[k]? = some (.lst [.int p])) (hL : Let L) : ∃ x S', callN Φ (n + 8) 17 [.ref k, .str L, .int 8] S = .ok x S' ∧ Pt 4 x := by
  rw [call_of h17 (n + 7) _ S ⟨rfl, by decide⟩]
  have lk : k < S.length := (List.getElem?_eq_some_iff.mp h).1
  have hkj : k ≠ S.length := by omega
  obtain ⟨S1, hS1⟩ : ∃ S1, S1 = S ++ [Ob.lst [.int 8, .int 26]] := ⟨_, rfl⟩
  have k1 : S1[k]? = some (.lst [.int p]) := by rw [hS1, List.getElem?_append_left lk]; exact h
  have j1 : S1[S.length]? = some (.lst [.int 8, .int 26]) := by rw [hS1]; simp
  have e0 : Eff S1 S1 k S.length := ⟨rfl, fun _ _ _ => rfl, ⟨p, k1⟩, ⟨8, 26, j1⟩⟩
  obtain ⟨t, S2, t2, q0, q4, e2⟩ := take_eff P (n := n + 6) (m := 4) hkj e0 (by decide) (by decide)
  obtain ⟨d, hd⟩ : ∃ d : Nat, (d : Int) = 1 + t ∧ d ≤ 4 := ⟨(1 + t).toNat, by omega, by omega⟩
  obtain ⟨x, S3, c3, e3, p3⟩ := pattern_ok P hkj hL d (n + (4 - d)) S1 S2 e2
  have ef : n + (4 - d) + d + 3 = n + 7 := by omega
  rw [ef, hd.1] at c3
  have go : evSs (callN Φ (n + 7)) f17_L_drawn.body [some (.ref k), some (.str L), some (.int 8)] S = .ret x S3 := by
    have s3 : small 3 = true := small_of (by omega) (by omega)
    simp [f17_L_drawn, bin_mul (.inl s3), newD, ← hS1, t2, c3]
  refine ⟨x, gc S x S3, ?_, p3.mono hd.2⟩
  show endD S (evSs (callN Φ (n + 7)) f17_L_drawn.body [some (.ref k), some (.str L), some (.int 8)] S) = _
  rw [go]
  rfl
/-! ### the parts of a pattern -/
theorem isP_cases {x : D} (h : isP x = true) : (∃ s, (s = sNone ∨ s = sEmpty) ∧ x = .tup [.str s]) ∨ (∃ c ∈ sigs, x = .tup [.str sSign, .str [c]]) ∨ (∃ y, isP y = true ∧ x = .tup [.str sStar, y]) ∨ ∃ s y z, (s = sOr ∨ s = sThen) ∧ isP y = true ∧ isP z = true ∧ x = .tup [.str s, y, z] := by
  cases x with
  | tup ds =>
    have h : isPt ds = true := h
    match ds, h with
    | [.str s], h => left; exact ⟨s, by simpa [isPt] using h, rfl⟩
    | [.str s, y], h =>
      have h : ((decide (s = sSign) && (isW y && one y)) || (decide (s = sStar) && isP y)) = true := h
      rw [Bool.or_eq_true] at h
      rcases h with h | h
      · obtain ⟨h1, h2⟩ := and2 h
        obtain ⟨h2, h3⟩ := and2 h2
        have e := of_decide_eq_true h1
        subst e
        cases y with
        | str w =>
          have hl : w.length = 1 := of_decide_eq_true h3
          match w, hl with
          | [c], _ =>
            have hc : ([c].all fun c => decide (c ∈ sigs)) = true := h2
            right; left
            exact ⟨c, by simpa using hc, rfl⟩
        | _ => cases h2
      · obtain ⟨h1, h2⟩ := and2 h
        have e := of_decide_eq_true h1
        subst e
        right; right; left
        exact ⟨y, h2, rfl⟩
    | [.str s, y, z], h =>
      have h : ((decide (s = sOr) || decide (s = sThen)) && (isP y && isP z)) = true := h
      obtain ⟨h1, h2⟩ := and2 h
      obtain ⟨h2, h3⟩ := and2 h2
      right; right; right
      exact ⟨s, y, z, by simpa using h1, h2, h3, rfl⟩
  | _ => cases h
structure Phi6 (Φ : Nat → Option Def) : Prop where
  h3 : Φ 3 = some f3_look_at_pattern
  h6 : Φ 6 = some f6_signs_in
  h7 : Φ 7 = some f7_signs_once
  h8 : Φ 8 = some f8_signs_of
  h9 : Φ 9 = some f9_empties
  h10 : Φ 10 = some f10_has_empty
theorem join0 (S : Sto) (c : Nat → List D → Sto → Out D) : mthD .join (.str []) [.lst []] S = .ok (.str []) S := rfl
theorem signs_in_ok (Q : Phi6 Φ) : ∀ (m : Nat) (x : D), isP x = true → (toP x).depth ≤ m → m ≤ 20 → ∀ (n : Nat) (S : Sto), ∃ w, callN Φ (n + m + 1) 6 [x] S = .ok (.str w) S ∧ w.length ≤ 2 ^ m
  | m, x, hp, hm, hm20, n, S => by
    rw [call_of Q.h6 (n + m) _ S ⟨rfl, by decide⟩]
    have pw : 1 ≤ 2 ^ m := Nat.one_le_two_pow
    have go : ∃ w, evSs (callN Φ (n + m)) f6_signs_in.body [some x, none] S = .ret (.str w) S ∧ w.length ≤ 2 ^ m := by
      rcases isP_cases hp with ⟨s, hs, rfl⟩ | ⟨c, hc, rfl⟩ | ⟨y, hy, rfl⟩ | ⟨s, y, z, hs, hy, hz, rfl⟩
      · refine ⟨[], ?_, by simp⟩
        have cm : compD (.name 1) (evO (callN Φ (n + m)) .no) (evE (callN Φ (n + m)) (.call 6 (.cons (.var 1) .nil))) [1] [some (.tup [.str s]), none] ⟨[], []⟩ S = .ok (.lst []) S := compD_map id fun d hd => by cases hd
        have ne : decide (s = sSign) = false := by rcases hs with rfl | rfl <;> rfl
        simp [f6_signs_in, sub0, cmp_eq (eqD_str' _ _ S), ne, slc1, cm, mthX, recv, mthD, seqOf, items, texts, joined]
      · exact ⟨[c], by simp [f6_signs_in, sub0, sub1, cmp_eq (eqD_str' _ _ S)], by simpa using pw⟩
      · obtain ⟨m', rfl⟩ : ∃ m', m = m' + 1 := ⟨m - 1, by
          simp only [toP, toPs, PyData.depth, PyData.depthAll] at hm; omega⟩
        have hd : (toP y).depth ≤ m' := by simp only [toP, toPs, PyData.depth, PyData.depthAll] at hm; omega
        obtain ⟨w, hw, hl⟩ := signs_in_ok Q m' y hy hd (by omega) n S
        have cm : compD (.name 1) (evO (callN Φ (n + (m' + 1))) .no) (evE (callN Φ (n + (m' + 1))) (.call 6 (.cons (.var 1) .nil))) [1] [some (.tup [.str sStar, y]), none] ⟨[], [y]⟩ S = .ok (.lst [.str w]) S := compD_map (fun _ => .str w) fun d hd => by
          rw [List.mem_singleton.mp hd]
          exact step_no rfl (by simp [wipe]; exact hw)
        have hsz : w.length ≤ sz := by
          have : 2 ^ m' ≤ 2 ^ 20 := Nat.pow_le_pow_right (by decide) (by omega)
          show w.length ≤ 16777216
          omega
        refine ⟨w, by simp [f6_signs_in, sub0, cmp_eq (eqD_str' _ _ S), slc1, cm, mthX, recv, mthD, seqOf, items, texts, joined, hsz], ?_⟩
        rw [Nat.pow_succ]; omega
      · obtain ⟨m', rfl⟩ : ∃ m', m = m' + 1 := ⟨m - 1, by
          simp only [toP, toPs, PyData.depth, PyData.depthAll] at hm; omega⟩
        have hd : (toP y).depth ≤ m' := by simp only [toP, toPs, PyData.depth, PyData.depthAll] at hm; omega
        have hd2 : (toP z).depth ≤ m' := by simp only [toP, toPs, PyData.depth, PyData.depthAll] at hm; omega
        obtain ⟨w, hw, hl⟩ := signs_in_ok Q m' y hy hd (by omega) n S
        obtain ⟨v, hv, hl2⟩ := signs_in_ok Q m' z hz hd2 (by omega) n S
        have cm : ∃ g : D → D, g y = .str w ∧ g z = .str v := by
          classical
          by_cases q : y = z
          · subst q
            have : w = v := by rw [hw] at hv; cases hv; rfl
            subst this
            exact ⟨fun _ => .str w, rfl, rfl⟩
          · exact ⟨fun d => if d = y then .str w else .str v, if_pos rfl, if_neg (Ne.symm q)⟩
        obtain ⟨g, g1, g2⟩ := cm
        have cm : compD (.name 1) (evO (callN Φ (n + (m' + 1))) .no) (evE (callN Φ (n + (m' + 1))) (.call 6 (.cons (.var 1) .nil))) [1] [some (.tup [.str s, y, z]), none] ⟨[], [y, z]⟩ S = .ok (.lst [.str w, .str v]) S := by
          rw [compD_map g fun d hd => ?_]
          · simp [g1, g2]
          · rcases List.mem_cons.mp hd with rfl | hd
            · exact step_no rfl (by simp [wipe, g1]; exact hw)
            · rw [List.mem_singleton.mp hd]
              exact step_no rfl (by simp [wipe, g2]; exact hv)
        have hsz : w.length + v.length ≤ sz := by
          have : 2 ^ m' ≤ 2 ^ 20 := Nat.pow_le_pow_right (by decide) (by omega)
          show w.length + v.length ≤ 16777216
          omega
        have ne : decide (s = sSign) = false := by rcases hs with rfl | rfl <;> rfl
        refine ⟨w ++ v, by simp [f6_signs_in, sub0, cmp_eq (eqD_str' _ _ S), ne, slc1, cm, mthX, recv, mthD, seqOf, items, texts, joined, hsz], ?_⟩
        rw [Nat.pow_succ, List.length_append]; omega
    obtain ⟨w, h1, h2⟩ := go
    refine ⟨w, ?_, h2⟩
    show endD S (evSs (callN Φ (n + m)) f6_signs_in.body [some x, none] S) = _
    rw [h1]
    simp [gc_self]
  termination_by m => m
end SL
set_option Elab.async false
set_option linter.all false
set_option maxRecDepth 100000
set_option maxHeartbeats 2000000
/-! C6: the program's two questions, and how a law asks them. -/
namespace SL
open PySem
variable {Φ : Nat → Option Def}
theorem texts_map (w : List Nat) : texts (w.map fun c => D.str [c]) = some (w.map fun c => [c]) := by
  induction w with
  | nil => rfl
  | cons a w ih => simp only [List.map_cons, texts, ih]
theorem once_ok (Q : Phi6 Φ) {n : Nat} {w : List Nat} {S : Sto} : ∃ v, callN Φ (n + 1) 7 [.str w] S = .ok (.str v) S := by
  rw [call_of Q.h7 n _ S ⟨rfl, by decide⟩]
  have cm : compD (.name 1) (evO (callN Φ n) (.yes (.cmp .isin (.var 1) (.var 0)))) (evE (callN Φ n) (.var 1)) [1] [some (.str w), none] ⟨[], sigs.map fun c => .str [c]⟩ S = .ok (.lst ((sigs.filter fun c => decide (c ∈ w)).map fun c => .str [c])) S := by
    rw [compD_filter (fun e => match e with | .str [c] => decide (c ∈ w) | _ => false) id fun e he => ?_]
    · rw [List.map_id, List.filter_map]; rfl
    · obtain ⟨c, _, rfl⟩ := List.mem_map.mp he
      exact step_yes rfl (by simp [wipe, cmp_in (inD_sign _ _ _)]) (fun _ => by simp [wipe])
  have hl : ((sigs.filter fun c => decide (c ∈ w)).map fun c => [c]).length ≤ 8 := by
    rw [List.length_map]
    exact List.length_filter_le _ _
  have hs : (((sigs.filter fun c => decide (c ∈ w)).map fun c => [c]).map List.length).sum ≤ 8 := by
    have : ∀ l : List Nat, ((l.map fun c => [c]).map List.length).sum = l.length := fun l => by
      induction l with
      | nil => rfl
      | cons a l ih => simp only [List.map_cons, List.sum_cons, ih, List.length_cons, List.length_nil]; omega
    rw [this]
    exact List.length_filter_le _ _
  have jn : mthD .join (.str []) [.lst ((sigs.filter fun c => decide (c ∈ w)).map fun c => .str [c])] S = .ok (.str (joined [] ((sigs.filter fun c => decide (c ∈ w)).map fun c => [c]))) S := by
    simp only [mthD, seqOf, items, texts_map]
    rw [if_pos]
    simp only [List.length_nil, Nat.mul_zero, Nat.add_zero]
    show _ ≤ 16777216
    omega
  have hv : valD (.str [97, 98, 99, 100, 101, 102, 103, 104]) S = .ok ⟨[], sigs.map fun c => .str [c]⟩ S := val_str _ (by decide) S
  refine ⟨joined [] ((sigs.filter fun c => decide (c ∈ w)).map fun c => [c]), ?_⟩
  show endD S (evSs (callN Φ n) f7_signs_once.body [some (.str w), none] S) = _
  have go : evSs (callN Φ n) f7_signs_once.body [some (.str w), none] S = .ret (.str (joined [] ((sigs.filter fun c => decide (c ∈ w)).map fun c => [c]))) S := by
    simp only [f7_signs_once, evSs_cons, evS_ret, ev_mth, ev_cst, Out.ok_bind, mthX, recv, if_true, evs_cons, evs_nil, ev_comp, evi_val, ev_glo0, hv, cm, jn, Out.so_ok, thenS_ret]
  rw [go]
  simp only [endD_ret, gc_self]
theorem empties_ok (Q : Phi6 Φ) : ∀ (m : Nat) (x : D), isP x = true → (toP x).depth ≤ m → ∀ (n : Nat) (S : Sto), ∃ b, callN Φ (n + m + 1) 9 [x] S = .ok (.bl b) S
  | m, x, hp, hm, n, S => by
    rw [call_of Q.h9 (n + m) _ S ⟨rfl, by decide⟩]
    have dE : Dt (.str sEmpty) := dts rfl
    have dT : Dt (.str sStar) := dts rfl
    have go : ∃ b, evSs (callN Φ (n + m)) f9_empties.body [some x] S = .ret (.bl b) S := by
      rcases isP_cases hp with ⟨s, hs, rfl⟩ | ⟨c, hc, rfl⟩ | ⟨y, hy, rfl⟩ | ⟨s, y, z, hs, hy, hz, rfl⟩
      · rcases hs with rfl | rfl
        · exact ⟨false, by simp [f9_empties, sub0, cmp_eq (eqD_str' _ _ S), in_two (dts (x := sNone) rfl) dE dT]⟩
        · exact ⟨true, by simp [f9_empties, sub0, cmp_eq (eqD_str' _ _ S), in_two (dts (x := sEmpty) rfl) dE dT]⟩
      · exact ⟨false, by simp [f9_empties, sub0, cmp_eq (eqD_str' _ _ S), in_two (dts (x := sSign) rfl) dE dT]⟩
      · exact ⟨true, by simp [f9_empties, sub0, cmp_eq (eqD_str' _ _ S), in_two (dts (x := sStar) rfl) dE dT]⟩
      · obtain ⟨m', rfl⟩ : ∃ m', m = m' + 1 := ⟨m - 1, by
          simp only [toP, toPs, PyData.depth, PyData.depthAll] at hm; omega⟩
        have hd : (toP y).depth ≤ m' := by simp only [toP, toPs, PyData.depth, PyData.depthAll] at hm; omega
        have hd2 : (toP z).depth ≤ m' := by simp only [toP, toPs, PyData.depth, PyData.depthAll] at hm; omega
        obtain ⟨b, hb⟩ := empties_ok Q m' y hy hd n S
        obtain ⟨b2, hb2⟩ := empties_ok Q m' z hz hd2 n S
        have ef : n + (m' + 1) = n + m' + 1 := by omega
        rw [ef]
        rcases hs with rfl | rfl
        · cases b
          · exact ⟨b2, by simp [f9_empties, sub0, sub1, sub2, cmp_eq (eqD_str' _ _ S), hb, hb2]⟩
          · exact ⟨true, by simp [f9_empties, sub0, sub1, sub2, cmp_eq (eqD_str' _ _ S), hb, hb2]⟩
        · cases b
          · exact ⟨false, by simp [f9_empties, sub0, sub1, sub2, cmp_eq (eqD_str' _ _ S), hb, hb2]⟩
          · exact ⟨b2, by simp [f9_empties, sub0, sub1, sub2, cmp_eq (eqD_str' _ _ S), hb, hb2]⟩
    obtain ⟨b, h1⟩ := go
    refine ⟨b, ?_⟩
    show endD S (evSs (callN Φ (n + m)) f9_empties.body [some x] S) = _
    rw [h1]
    simp [gc_self]
  termination_by m => m
/-- data small enough to be asked about and shown -/
structure Sm (m : Nat) (d : D) : Prop where
  dt : Dt d
  dep : (toP d).depth ≤ m
  wt : (toP d).weight ≤ 1000000
  sh : (toP d).showable = true
  si : (toP d).intsShort 13 = true
theorem Sm.repr {m : Nat} {d : D} (h : Sm m d) (S : Sto) : bltD .repr [d] S = .ok (.str (toP d).shown.cps.toList) S := by
  have l : PyData.layable0 (toP d) = true := by
    unfold PyData.layable0
    rw [h.dt.lay, decide_eq_true h.dt.dep, decide_eq_true (Nat.le_trans h.wt (by decide))]
    rfl
  have s := PyProof.Rows.shown_le13 l h.si
  have s2 : (toP d).shown.length ≤ sz := by show _ ≤ 16777216; omega
  simp [bltD, h.dt.look, h.sh, s2]
theorem look_yes (P : Phi2 Φ) (Q : Phi6 Φ) {m n : Nat} {d : D} (h : Sm m d) (hp : isP d = true) (S : Sto) : callN Φ (n + m + 3) 3 [d] S = .ok .non S := by
  rw [call_of Q.h3 (n + m + 2) _ S ⟨rfl, by decide⟩]
  have r := right_pattern P m d h.dt h.dep (Nat.le_trans h.wt (by decide)) n S
  show endD S (evSs (callN Φ (n + m + 2)) f3_look_at_pattern.body [some d] S) = _
  have go : evSs (callN Φ (n + m + 2)) f3_look_at_pattern.body [some d] S = .nx [some d] S := by simp [f3_look_at_pattern, r, hp]
  rw [go]
  simp [gc_self]
theorem evS_raise1 (c : Nat → List D → Sto → Out D) (f : FS) (S : Sto) : evS c (.raise 1 .nil) f S = .exc 1 [] f S := by
  unfold evS evEs
  rfl
theorem look_no (P : Phi2 Φ) (Q : Phi6 Φ) {m n : Nat} {d : D} (h : Sm m d) (hp : isP d = false) (S : Sto) : callN Φ (n + m + 3) 3 [d] S = .exc 1 [] S := by
  rw [call_of Q.h3 (n + m + 2) _ S ⟨rfl, by decide⟩]
  have r := right_pattern P m d h.dt h.dep (Nat.le_trans h.wt (by decide)) n S
  show endD S (evSs (callN Φ (n + m + 2)) f3_look_at_pattern.body [some d] S) = _
  have go : evSs (callN Φ (n + m + 2)) f3_look_at_pattern.body [some d] S = .exc 1 [] [some d] S := by simp [f3_look_at_pattern, r, hp, evS_raise1]
  rw [go]
  rfl
theorem ask_yes (P : Phi2 Φ) (Q : Phi6 Φ) {m n : Nat} {d : D} (h : Sm m d) (hm : m ≤ 20) (hp : isP d = true) (S : Sto) : (∃ w, callN Φ (n + m + 4) 8 [d] S = .ok (.str w) S) ∧ ∃ b, callN Φ (n + m + 4) 10 [d] S = .ok (.bl b) S := by
  have l := look_yes P Q (n := n) h hp S
  constructor
  · rw [call_of Q.h8 (n + m + 3) _ S ⟨rfl, by decide⟩]
    obtain ⟨w, hw, _⟩ := signs_in_ok Q m d hp h.dep hm (n + 2) S
    obtain ⟨v, hv⟩ := once_ok Q (n := n + m + 2) (w := w) (S := S)
    have ef : n + 2 + m + 1 = n + m + 3 := by omega
    rw [ef] at hw
    refine ⟨v, ?_⟩
    show endD S (evSs (callN Φ (n + m + 3)) f8_signs_of.body [some d] S) = _
    have go : evSs (callN Φ (n + m + 3)) f8_signs_of.body [some d] S = .ret (.str v) S := by simp [f8_signs_of, l, hw, hv]
    rw [go]
    simp [gc_self]
  · rw [call_of Q.h10 (n + m + 3) _ S ⟨rfl, by decide⟩]
    obtain ⟨b, hb⟩ := empties_ok Q m d hp h.dep (n + 2) S
    have ef : n + 2 + m + 1 = n + m + 3 := by omega
    rw [ef] at hb
    refine ⟨b, ?_⟩
    show endD S (evSs (callN Φ (n + m + 3)) f10_has_empty.body [some d] S) = _
    have go : evSs (callN Φ (n + m + 3)) f10_has_empty.body [some d] S = .ret (.bl b) S := by simp [f10_has_empty, l, hb]
    rw [go]
    simp [gc_self]
theorem ask_no (P : Phi2 Φ) (Q : Phi6 Φ) {m n : Nat} {d : D} (h : Sm m d) (hp : isP d = false) (S : Sto) : callN Φ (n + m + 4) 8 [d] S = .exc 1 [] S ∧ callN Φ (n + m + 4) 10 [d] S = .exc 1 [] S := by
  have l := look_no P Q (n := n) h hp S
  constructor
  · rw [call_of Q.h8 (n + m + 3) _ S ⟨rfl, by decide⟩]
    show endD S (evSs (callN Φ (n + m + 3)) f8_signs_of.body [some d] S) = _
    have go : evSs (callN Φ (n + m + 3)) f8_signs_of.body [some d] S = .exc 1 [] [some d] S := by simp [f8_signs_of, l]
    rw [go]
    rfl
  · rw [call_of Q.h10 (n + m + 3) _ S ⟨rfl, by decide⟩]
    show endD S (evSs (callN Φ (n + m + 3)) f10_has_empty.body [some d] S) = _
    have go : evSs (callN Φ (n + m + 3)) f10_has_empty.body [some d] S = .exc 1 [] [some d] S := by simp [f10_has_empty, l]
    rw [go]
    rfl
structure Phi28 (Φ : Nat → Option Def) : Prop where
  h27 : Φ 27 = some f27_L_flags
  h28 : Φ 28 = some f28_L_error
  h29 : Φ 29 = some f29_L_word
theorem flags_ok (W : Phi28 Φ) {n k : Nat} {S : Sto} (h : S[k]? = some (.exc 1 [])) : callN Φ (n + 1) 27 [.ref k] S = .ok (.lst [.bl true, .bl false, .bl false, .bl false, .bl false, .bl false, .bl false, .bl false, .bl false, .bl false, .bl false, .bl false, .bl false, .bl false]) S := by
  rw [call_of W.h27 n _ S ⟨rfl, by decide⟩]
  have t : ∀ c, c < 15 → isTy S (.own c) (.ref k) = some (under 1 c) := fun c hc => by simp [isTy, h, hc]
  show endD S (evSs (callN Φ n) f27_L_flags.body [some (.ref k), none] S) = _
  have go : evSs (callN Φ n) f27_L_flags.body [some (.ref k), none] S = .ret (.lst [.bl true, .bl false, .bl false, .bl false, .bl false, .bl false, .bl false, .bl false, .bl false, .bl false, .bl false, .bl false, .bl false, .bl false]) S := by
    simp [f27_L_flags, t, under, binD, items]
  rw [go]
  simp [gc_self]
abbrev fl14 : List D := [.bl true, .bl false, .bl false, .bl false, .bl false, .bl false, .bl false, .bl false, .bl false, .bl false, .bl false, .bl false, .bl false, .bl false]
abbrev sPattern : List Nat := [112, 97, 116, 116, 101, 114, 110]
theorem dt_fl : Dt (.lst fl14) := ⟨by decide +kernel, by decide +kernel, by decide +kernel⟩
theorem count_fl (S : Sto) : mthD .count (.lst fl14) [.bl true] S = .ok (.int 1) S := by
  simp only [mthD, dt_fl.look, Dt.bl.look]
  rfl
theorem index_fl (S : Sto) : mthD .index (.lst fl14) [.bl true] S = .ok (.int 0) S := by
  simp only [mthD, dt_fl.look, Dt.bl.look]
  rfl
theorem sub_lst0 (d : D) (r : List D) (S : Sto) : subD (.lst (d :: r)) (.int 0) S = .ok d S := by simp [subD, seqOf, items, placeOf]
theorem error_ok (W : Phi28 Φ) {n k : Nat} {S : Sto} (h : S[k]? = some (.exc 1 [])) : callN Φ (n + 2) 28 [.ref k] S = .ok (.str sPattern) S := by
  rw [call_of W.h28 (n + 1) _ S ⟨rfl, by decide⟩]
  have fl := flags_ok W (n := n) h
  have t0 : isTy S (.own 0) (.ref k) = some true := by simp [isTy, h, under]
  have t1 : isTy S .ve (.ref k) = some true := by simp [isTy, h]
  show endD S (evSs (callN Φ (n + 1)) f28_L_error.body [some (.ref k), none, none] S) = _
  have go : evSs (callN Φ (n + 1)) f28_L_error.body [some (.ref k), none, none] S = .ret (.str sPattern) S := by
    have ad : ∀ (x y : List D), x.length + y.length ≤ 100 → binD .add (.lst x) (.lst y) S = .ok (.lst (x ++ y)) S := fun x y hxy => by
      simp only [binD, items]
      rw [if_pos]
      show _ ≤ 16777216
      omega
    simp [f28_L_error, isND, fl, mthX, recv, count_fl, index_fl, t0, t1, ad, sub_lst0]
  rw [go]
  simp [gc_self]
theorem error_none (W : Phi28 Φ) {n : Nat} {S : Sto} : callN Φ (n + 1) 28 [.non] S = .ok (.str []) S := by
  rw [call_of W.h28 n _ S ⟨rfl, by decide⟩]
  show endD S (evSs (callN Φ n) f28_L_error.body [some .non, none, none] S) = _
  have go : evSs (callN Φ n) f28_L_error.body [some .non, none, none] S = .ret (.str []) S := by simp [f28_L_error, isND]
  rw [go]
  simp [gc_self]
theorem gc_str {S : Sto} {T : Sto} (w : List Nat) : gc S (.str w) (S ++ T) = S := by
  unfold gc
  rw [if_pos ⟨⟨1, trivial⟩, List.prefix_append S T⟩]
theorem word_ok (P : Phi2 Φ) (Q : Phi6 Φ) (W : Phi28 Φ) {m n : Nat} {d : D} {i : Int} (h : Sm m d) (hm : m ≤ 20) (S : Sto) : callN Φ (n + m + 5) 29 [.int i, d] S = .ok (.str (if isP d then [] else sPattern)) S := by
  rw [call_of W.h29 (n + m + 4) _ S ⟨rfl, by decide⟩]
  show endD S (evSs (callN Φ (n + m + 4)) f29_L_word.body [some (.int i), some d, none, none, none] S) = _
  cases hp : isP d with
  | true =>
    obtain ⟨⟨w, hw⟩, ⟨b, hb⟩⟩ := ask_yes P Q (n := n) h hm hp S
    have en := error_none W (n := n + m + 3) (S := S)
    have go : evSs (callN Φ (n + m + 4)) f29_L_word.body [some (.int i), some d, none, none, none] S = .ret (.str []) S := by
      by_cases hi : i = 0
      · simp [f29_L_word, h.repr, hi, hw, tryD, cmp_ne (eqD_str' _ _ S), en]
      · simp [f29_L_word, h.repr, hi, hb, tryD, cmp_ne (eqD_str' _ _ S), en]
    rw [go]
    simp [gc_self]
  | false =>
    obtain ⟨q1, q2⟩ := ask_no P Q (n := n) h hp S
    have er := error_ok W (n := n + m + 2) (k := S.length) (S := S ++ [.exc 1 []]) (by simp)
    have go : evSs (callN Φ (n + m + 4)) f29_L_word.body [some (.int i), some d, none, none, none] S = .ret (.str sPattern) (S ++ [.exc 1 []]) := by
      by_cases hi : i = 0
      · simp [f29_L_word, h.repr, hi, q1, tryD, under, cmp_ne (eqD_str' _ _ _), er]
      · simp [f29_L_word, h.repr, hi, q2, tryD, under, cmp_ne (eqD_str' _ _ _), er]
    rw [go]
    simp only [endD_ret, gc_str]
    rfl
end SL
set_option Elab.async false
set_option linter.all false
set_option maxRecDepth 100000
set_option maxHeartbeats 2000000
/-! C7: the odd things that the law k02 asks about. -/
namespace SL
open PySem
variable {Φ : Nat → Option Def}
structure Sq (a w : Nat) (d : D) : Prop where
  fl : flat d = true
  lay : (toP d).canLay0 = true
  dep : (toP d).depth ≤ a
  wt : (toP d).weight ≤ w
  sh : (toP d).showable = true
  si : (toP d).intsShort 13 = true
structure Sql (a w : Nat) (ds : List D) : Prop where
  fl : flats ds = true
  lay : PyData.canLayAll0 (toPs ds) = true
  dep : PyData.depthAll (toPs ds) ≤ a
  wt : PyData.weightAll (toPs ds) ≤ w
  sh : PyData.showableAll (toPs ds) = true
  si : PyData.intsShortAll 13 (toPs ds) = true
theorem Sq.sm {w : Nat} {d : D} (h : Sq 8 w d) (hw : w ≤ 1000000) : Sm 8 d := ⟨⟨h.fl, h.lay, Nat.le_trans h.dep (by decide)⟩, h.dep, Nat.le_trans h.wt hw, h.sh, h.si⟩
theorem Sq.wd {a w v : Nat} {d : D} (h : Sq a w d) (hw : w ≤ v) : Sq a v d := ⟨h.fl, h.lay, h.dep, Nat.le_trans h.wt hw, h.sh, h.si⟩
theorem Sq.up {a b w : Nat} {d : D} (h : Sq a w d) (le : a ≤ b) : Sq b w d := ⟨h.fl, h.lay, Nat.le_trans h.dep le, h.wt, h.sh, h.si⟩
theorem Sql.up {a b w : Nat} {d : List D} (h : Sql a w d) (le : a ≤ b) : Sql b w d := ⟨h.fl, h.lay, Nat.le_trans h.dep le, h.wt, h.sh, h.si⟩
theorem sql_nil {a : Nat} : Sql a 0 [] := ⟨rfl, rfl, Nat.zero_le _, Nat.le_refl _, rfl, rfl⟩
theorem sql_cons {a w v : Nat} {d : D} {ds : List D} (h : Sq a w d) (r : Sql a v ds) : Sql a (w + 1 + v) (d :: ds) := by
  refine ⟨by show (flat d && flats ds) = true; rw [h.fl, r.fl]; rfl, by simp [toPs, PyData.canLayAll0, h.lay, r.lay], ?_, ?_, by simp [toPs, PyData.showableAll, h.sh, r.sh], by simp [toPs, PyData.intsShortAll, h.si, r.si]⟩
  · have := h.dep
    have := r.dep
    simp only [toPs, PyData.depthAll]
    omega
  · have := h.wt
    have := r.wt
    simp only [toPs, PyData.weightAll]
    omega
theorem sq_tup {a w : Nat} {ds : List D} (r : Sql a w ds) : Sq (a + 1) w (.tup ds) := by
  refine ⟨r.fl, by simpa [toP, PyData.canLay0] using r.lay, ?_, by simpa [toP, PyData.weight] using r.wt, by simpa [toP, PyData.showable] using r.sh, by simpa [toP, PyData.intsShort] using r.si⟩
  have := r.dep
  simp only [toP, PyData.depth]
  omega
theorem sq_lst {a w : Nat} {ds : List D} (r : Sql a w ds) : Sq (a + 1) w (.lst ds) := by
  refine ⟨r.fl, by simpa [toP, PyData.canLay0] using r.lay, ?_, by simpa [toP, PyData.weight] using r.wt, by simpa [toP, PyData.showable] using r.sh, by simpa [toP, PyData.intsShort] using r.si⟩
  have := r.dep
  simp only [toP, PyData.depth]
  omega
theorem sq_non {a : Nat} : Sq a 0 .non := ⟨rfl, rfl, Nat.zero_le _, Nat.le_refl _, rfl, rfl⟩
theorem sq_bl {a : Nat} {b : Bool} : Sq a 0 (.bl b) := ⟨rfl, rfl, Nat.zero_le _, Nat.le_refl _, rfl, rfl⟩
theorem sq_zero {a : Nat} : Sq a 0 (.int 0) := ⟨rfl, rfl, Nat.zero_le _, by decide +kernel, by decide +kernel, by decide +kernel⟩
theorem sq_str {a : Nat} {s : List Nat} (h : (s.all fun c => decide (c < 1114112)) = true) : Sq a s.length (.str s) := by
  have d := dts h
  exact ⟨rfl, d.lay, Nat.zero_le _, by simp [toP, PyData.weight], rfl, rfl⟩
theorem Pt.sq {x : D} (h : Pt 4 x) : ∃ ds, x = .tup ds ∧ ds.length ≤ 3 ∧ Sq 5 310 x ∧ Sql 4 310 ds := by
  have w := h.wt
  have s : Sq 5 310 x := ⟨h.fl, h.lay, h.dep, by omega, h.sh, h.si⟩
  have key : ∃ ds, x = .tup ds ∧ ds.length ≤ 3 := by
    rcases isP_cases h.p with ⟨s, hs, rfl⟩ | ⟨c, hc, rfl⟩ | ⟨y, hy, rfl⟩ | ⟨s, y, z, hs, hy, hz, rfl⟩
    · exact ⟨_, rfl, by simp⟩
    · exact ⟨_, rfl, by simp⟩
    · exact ⟨_, rfl, by simp⟩
    · exact ⟨_, rfl, by simp⟩
  obtain ⟨ds, rfl, hl⟩ := key
  refine ⟨ds, rfl, hl, s, ⟨s.fl, by simpa [toP, PyData.canLay0] using s.lay, ?_, by simpa [toP, PyData.weight] using s.wt, by simpa [toP, PyData.showable] using s.sh, by simpa [toP, PyData.intsShort] using s.si⟩⟩
  have := s.dep
  simp only [toP, PyData.depth] at this
  omega
def od0 (ds : List D) : List D := [.non, (.int 0), (.str []), (.str [97]), (.tup []), (.lst []), (.tup [(.str [110, 111, 110, 101]), (.tup ds)]), (.tup [(.str [101, 109, 112, 116, 121]), (.str [97])]), (.tup [(.str [115, 105, 103, 110])]), (.tup [(.str [115, 105, 103, 110]), (.str [105])]), (.tup [(.str [115, 105, 103, 110]), (.str [])])]
def od1 (ds : List D) : List D := [(.tup [(.str [115, 105, 103, 110]), (.str [97, 98])]), (.tup [(.str [115, 105, 103, 110]), (.tup ds)]), (.tup [(.str [115, 105, 103, 110]), (.str [65])]), (.tup [(.str [115, 105, 103, 110]), (.int 0)]), (.tup [(.str [115, 105, 103, 110]), (.str [97]), (.str [98])]), (.tup [(.str [111, 114]), (.tup ds)])]
def od2 (ds : List D) : List D := [(.tup [(.str [116, 104, 101, 110]), (.tup ds), (.tup ds), (.tup ds)]), (.tup [(.str [115, 116, 97, 114])]), (.tup [(.str [115, 116, 97, 114]), (.tup ds), (.tup ds)]), (.tup [(.str [115, 116, 97, 114]), (.str [97])]), (.tup [(.str [115, 116, 97, 114]), (.lst [])]), (.lst [(.str [115, 116, 97, 114]), (.tup ds)])]
def od3 (ds : List D) : List D := [(.tup [(.str [111, 114]), (.tup ds), .non]), (.tup [(.str [111, 114]), .non, (.tup ds)]), (.tup [(.tup ds), (.tup ds)]), (.tup [(.str [116, 104, 101, 110]), (.tup [(.str [115, 105, 103, 110]), (.str [122])]), (.tup ds)]), (.tup [(.str [116, 104, 101, 110]), (.tup ds), (.lst [(.str [110, 111, 110, 101])])])]
def od4 (ds : List D) : List D := [(.tup [(.str [79, 114]), (.tup ds), (.tup ds)]), (.tup [(.str [97, 110, 100]), (.tup ds), (.tup ds)]), (.tup [(.str [115, 116, 97, 114]), (.tup [(.str [115, 116, 97, 114])])]), (.bl true), (.tup [(.str [111, 114]), (.tup [(.str [111, 114]), (.tup ds), (.tup [(.str [110, 111, 110, 101]), (.int 0)])]), (.tup ds)])]
def od5 (ds : List D) : List D := [(.tup ((.str [110, 111, 110, 101]) :: ds)), (.tup [(.str [111, 114]), (.tup ds), (.tup ds), (.tup ds)]), (.tup [(.str [116, 104, 101, 110]), (.tup ds)]), (.tup [(.int 0), (.tup ds)]), (.lst ds), (.tup [(.str [119, 111, 114, 100]), (.str [97])]), (.tup [.non, (.tup ds)]), (.str [110, 111, 110, 101])]
theorem sm_od0 {ds : List D} (hx : Sq 5 310 (.tup ds)) (hs : Sql 4 310 ds) : ∀ d ∈ od0 ds, Sq 8 5000 d := by
  intro d hd
  simp only [od0, List.mem_cons, List.not_mem_nil, or_false] at hd
  rcases hd with rfl | rfl | rfl | rfl | rfl | rfl | rfl | rfl | rfl | rfl | rfl
  · exact Sq.wd sq_non (by decide)
  · exact Sq.wd sq_zero (by decide)
  · exact Sq.wd (sq_str rfl) (by decide)
  · exact Sq.wd (sq_str rfl) (by decide)
  · exact Sq.wd (sq_tup sql_nil) (by decide)
  · exact Sq.wd (sq_lst sql_nil) (by decide)
  · exact Sq.wd (sq_tup (sql_cons (sq_str rfl) (sql_cons (hx.up (by decide)) sql_nil))) (by decide)
  · exact Sq.wd (sq_tup (sql_cons (sq_str rfl) (sql_cons (sq_str rfl) sql_nil))) (by decide)
  · exact Sq.wd (sq_tup (sql_cons (sq_str rfl) sql_nil)) (by decide)
  · exact Sq.wd (sq_tup (sql_cons (sq_str rfl) (sql_cons (sq_str rfl) sql_nil))) (by decide)
  · exact Sq.wd (sq_tup (sql_cons (sq_str rfl) (sql_cons (sq_str rfl) sql_nil))) (by decide)
theorem sm_od1 {ds : List D} (hx : Sq 5 310 (.tup ds)) (hs : Sql 4 310 ds) : ∀ d ∈ od1 ds, Sq 8 5000 d := by
  intro d hd
  simp only [od1, List.mem_cons, List.not_mem_nil, or_false] at hd
  rcases hd with rfl | rfl | rfl | rfl | rfl | rfl
  · exact Sq.wd (sq_tup (sql_cons (sq_str rfl) (sql_cons (sq_str rfl) sql_nil))) (by decide)
  · exact Sq.wd (sq_tup (sql_cons (sq_str rfl) (sql_cons (hx.up (by decide)) sql_nil))) (by decide)
  · exact Sq.wd (sq_tup (sql_cons (sq_str rfl) (sql_cons (sq_str rfl) sql_nil))) (by decide)
  · exact Sq.wd (sq_tup (sql_cons (sq_str rfl) (sql_cons sq_zero sql_nil))) (by decide)
  · exact Sq.wd (sq_tup (sql_cons (sq_str rfl) (sql_cons (sq_str rfl) (sql_cons (sq_str rfl) sql_nil)))) (by decide)
  · exact Sq.wd (sq_tup (sql_cons (sq_str rfl) (sql_cons (hx.up (by decide)) sql_nil))) (by decide)
theorem sm_od2 {ds : List D} (hx : Sq 5 310 (.tup ds)) (hs : Sql 4 310 ds) : ∀ d ∈ od2 ds, Sq 8 5000 d := by
  intro d hd
  simp only [od2, List.mem_cons, List.not_mem_nil, or_false] at hd
  rcases hd with rfl | rfl | rfl | rfl | rfl | rfl
  · exact Sq.wd (sq_tup (sql_cons (sq_str rfl) (sql_cons (hx.up (by decide)) (sql_cons (hx.up (by decide)) (sql_cons (hx.up (by decide)) sql_nil))))) (by decide)
  · exact Sq.wd (sq_tup (sql_cons (sq_str rfl) sql_nil)) (by decide)
  · exact Sq.wd (sq_tup (sql_cons (sq_str rfl) (sql_cons (hx.up (by decide)) (sql_cons (hx.up (by decide)) sql_nil)))) (by decide)
  · exact Sq.wd (sq_tup (sql_cons (sq_str rfl) (sql_cons (sq_str rfl) sql_nil))) (by decide)
  · exact Sq.wd (sq_tup (sql_cons (sq_str rfl) (sql_cons (sq_lst sql_nil) sql_nil))) (by decide)
  · exact Sq.wd (sq_lst (sql_cons (sq_str rfl) (sql_cons (hx.up (by decide)) sql_nil))) (by decide)
theorem sm_od3 {ds : List D} (hx : Sq 5 310 (.tup ds)) (hs : Sql 4 310 ds) : ∀ d ∈ od3 ds, Sq 8 5000 d := by
  intro d hd
  simp only [od3, List.mem_cons, List.not_mem_nil, or_false] at hd
  rcases hd with rfl | rfl | rfl | rfl | rfl
  · exact Sq.wd (sq_tup (sql_cons (sq_str rfl) (sql_cons (hx.up (by decide)) (sql_cons sq_non sql_nil)))) (by decide)
  · exact Sq.wd (sq_tup (sql_cons (sq_str rfl) (sql_cons sq_non (sql_cons (hx.up (by decide)) sql_nil)))) (by decide)
  · exact Sq.wd (sq_tup (sql_cons (hx.up (by decide)) (sql_cons (hx.up (by decide)) sql_nil))) (by decide)
  · exact Sq.wd (sq_tup (sql_cons (sq_str rfl) (sql_cons (sq_tup (sql_cons (sq_str rfl) (sql_cons (sq_str rfl) sql_nil))) (sql_cons (hx.up (by decide)) sql_nil)))) (by decide)
  · exact Sq.wd (sq_tup (sql_cons (sq_str rfl) (sql_cons (hx.up (by decide)) (sql_cons (sq_lst (sql_cons (sq_str rfl) sql_nil)) sql_nil)))) (by decide)
theorem sm_od4 {ds : List D} (hx : Sq 5 310 (.tup ds)) (hs : Sql 4 310 ds) : ∀ d ∈ od4 ds, Sq 8 5000 d := by
  intro d hd
  simp only [od4, List.mem_cons, List.not_mem_nil, or_false] at hd
  rcases hd with rfl | rfl | rfl | rfl | rfl
  · exact Sq.wd (sq_tup (sql_cons (sq_str rfl) (sql_cons (hx.up (by decide)) (sql_cons (hx.up (by decide)) sql_nil)))) (by decide)
  · exact Sq.wd (sq_tup (sql_cons (sq_str rfl) (sql_cons (hx.up (by decide)) (sql_cons (hx.up (by decide)) sql_nil)))) (by decide)
  · exact Sq.wd (sq_tup (sql_cons (sq_str rfl) (sql_cons (sq_tup (sql_cons (sq_str rfl) sql_nil)) sql_nil))) (by decide)
  · exact Sq.wd sq_bl (by decide)
  · exact Sq.wd (sq_tup (sql_cons (sq_str rfl) (sql_cons (sq_tup (sql_cons (sq_str rfl) (sql_cons (hx.up (by decide)) (sql_cons (sq_tup (sql_cons (sq_str rfl) (sql_cons sq_zero sql_nil))) sql_nil)))) (sql_cons (hx.up (by decide)) sql_nil)))) (by decide)
theorem sm_od5 {ds : List D} (hx : Sq 5 310 (.tup ds)) (hs : Sql 4 310 ds) : ∀ d ∈ od5 ds, Sq 8 5000 d := by
  intro d hd
  simp only [od5, List.mem_cons, List.not_mem_nil, or_false] at hd
  rcases hd with rfl | rfl | rfl | rfl | rfl | rfl | rfl | rfl
  · exact Sq.wd (sq_tup (sql_cons (sq_str rfl) (hs.up (by decide)))) (by decide)
  · exact Sq.wd (sq_tup (sql_cons (sq_str rfl) (sql_cons (hx.up (by decide)) (sql_cons (hx.up (by decide)) (sql_cons (hx.up (by decide)) sql_nil))))) (by decide)
  · exact Sq.wd (sq_tup (sql_cons (sq_str rfl) (sql_cons (hx.up (by decide)) sql_nil))) (by decide)
  · exact Sq.wd (sq_tup (sql_cons sq_zero (sql_cons (hx.up (by decide)) sql_nil))) (by decide)
  · exact Sq.wd (sq_lst (hs.up (by decide))) (by decide)
  · exact Sq.wd (sq_tup (sql_cons (sq_str rfl) (sql_cons (sq_str rfl) sql_nil))) (by decide)
  · exact Sq.wd (sq_tup (sql_cons sq_non (sql_cons (hx.up (by decide)) sql_nil))) (by decide)
  · exact Sq.wd (sq_str rfl) (by decide)
end SL
set_option Elab.async false
set_option linter.all false
set_option maxRecDepth 100000
set_option maxHeartbeats 2000000
namespace SL
open PySem
variable {Φ : Nat → Option Def}
theorem bad_ok (h23 : Φ 23 = some f23_L_bad_patterns) {n : Nat} {ds : List D} (hl : ds.length ≤ 3) (S : Sto) : callN Φ (n + 1) 23 [.tup ds] S = .ok (.lst (((((od0 ds ++ od1 ds) ++ od2 ds) ++ od3 ds) ++ od4 ds) ++ od5 ds)) S := by
  rw [call_of h23 n _ S ⟨rfl, by decide⟩]
  have ad : ∀ (x y : List D), x.length + y.length ≤ 100 → binD .add (.lst x) (.lst y) S = .ok (.lst (x ++ y)) S := fun x y hxy => by
    simp only [binD, items]
    rw [if_pos]
    show _ ≤ 16777216
    omega
  have a2 : ∀ s, binD .add (.tup [.str s]) (.tup ds) S = .ok (.tup (.str s :: ds)) S := fun s => by
    simp only [binD]
    rw [if_pos]
    · rfl
    · simp only [List.length_cons, List.length_nil]
      show _ ≤ 16777216
      omega
  have li : bltD .list [.tup ds] S = .ok (.lst ds) S := rfl
  show endD S (evSs (callN Φ n) f23_L_bad_patterns.body [some (.tup ds), none] S) = _
  have go : evSs (callN Φ n) f23_L_bad_patterns.body [some (.tup ds), none] S = .ret (.lst (((((od0 ds ++ od1 ds) ++ od2 ds) ++ od3 ds) ++ od4 ds) ++ od5 ds)) S := by
    simp [f23_L_bad_patterns, ad, a2, li, od0, od1, od2, od3, od4, od5]
  rw [go]
  simp only [endD_ret, gc_self]
theorem bad_sq {ds : List D} (hx : Sq 5 310 (.tup ds)) (hs : Sql 4 310 ds) : ∀ d ∈ (((((od0 ds ++ od1 ds) ++ od2 ds) ++ od3 ds) ++ od4 ds) ++ od5 ds), Sq 8 5000 d := by
  intro d hd
  simp only [List.mem_append] at hd
  rcases hd with (((((h | h) | h) | h) | h) | h)
  · exact sm_od0 hx hs d h
  · exact sm_od1 hx hs d h
  · exact sm_od2 hx hs d h
  · exact sm_od3 hx hs d h
  · exact sm_od4 hx hs d h
  · exact sm_od5 hx hs d h
theorem bad_sm {ds : List D} (hx : Sq 5 310 (.tup ds)) (hs : Sql 4 310 ds) : ∀ d ∈ (((((od0 ds ++ od1 ds) ++ od2 ds) ++ od3 ds) ++ od4 ds) ++ od5 ds), Sm 8 d := fun d hd => (bad_sq hx hs d hd).sm (by decide)
end SL
set_option Elab.async false
set_option linter.all false
set_option maxRecDepth 100000
set_option maxHeartbeats 2000000
/-! D1: patterns as a type of their own; what they tell; exact values of the small functions. -/
namespace SL
open PySem
variable {Φ : Nat → Option Def}
inductive Re where
  | none
  | empty
  | sign (c : Nat)
  | or (a b : Re)
  | thn (a b : Re)
  | star (a : Re)
  deriving DecidableEq
namespace Re
def d : Re → D
  | .none => .tup [.str sNone]
  | .empty => .tup [.str sEmpty]
  | .sign c => .tup [.str sSign, .str [c]]
  | .or a b => .tup [.str sOr, a.d, b.d]
  | .thn a b => .tup [.str sThen, a.d, b.d]
  | .star a => .tup [.str sStar, a.d]
def ok : Re → Prop
  | .none => True
  | .empty => True
  | .sign c => c ∈ sigs
  | .or a b => a.ok ∧ b.ok
  | .thn a b => a.ok ∧ b.ok
  | .star a => a.ok
def ht : Re → Nat
  | .none => 1
  | .empty => 1
  | .sign _ => 1
  | .or a b => max a.ht b.ht + 1
  | .thn a b => max a.ht b.ht + 1
  | .star a => a.ht + 1
def nul : Re → Bool
  | .none => false
  | .empty => true
  | .sign _ => false
  | .or a b => a.nul || b.nul
  | .thn a b => a.nul && b.nul
  | .star _ => true
def sgn : Re → List Nat
  | .none => []
  | .empty => []
  | .sign c => [c]
  | .or a b => a.sgn ++ b.sgn
  | .thn a b => a.sgn ++ b.sgn
  | .star a => a.sgn
theorem ht_pos (r : Re) : 1 ≤ r.ht := by cases r <;> simp [ht]
theorem depth_eq : ∀ r : Re, (toP r.d).depth = r.ht
  | .none => rfl
  | .empty => rfl
  | .sign _ => rfl
  | .or a b => by simp only [d, toP, toPs, PyData.depth, PyData.depthAll, depth_eq a, depth_eq b, ht]; omega
  | .thn a b => by simp only [d, toP, toPs, PyData.depth, PyData.depthAll, depth_eq a, depth_eq b, ht]; omega
  | .star a => by simp only [d, toP, toPs, PyData.depth, PyData.depthAll, depth_eq a, ht]; omega
end Re
theorem isP_re (m : Nat) : ∀ (x : D), (toP x).depth ≤ m → isP x = true → ∃ r : Re, x = r.d ∧ r.ok := by
  induction m with
  | zero =>
    intro x hm h
    rcases isP_cases h with ⟨s, hs, rfl⟩ | ⟨c, hc, rfl⟩ | ⟨y, hy, rfl⟩ | ⟨s, y, z, hs, hy, hz, rfl⟩
    all_goals (simp only [toP, toPs, PyData.depth, PyData.depthAll] at hm; omega)
  | succ m ih =>
    intro x hm h
    rcases isP_cases h with ⟨s, hs, rfl⟩ | ⟨c, hc, rfl⟩ | ⟨y, hy, rfl⟩ | ⟨s, y, z, hs, hy, hz, rfl⟩
    · rcases hs with rfl | rfl
      · exact ⟨.none, rfl, trivial⟩
      · exact ⟨.empty, rfl, trivial⟩
    · exact ⟨.sign c, rfl, hc⟩
    · simp only [toP, toPs, PyData.depth, PyData.depthAll] at hm
      obtain ⟨r, rfl, hr⟩ := ih y (by omega) hy
      exact ⟨.star r, rfl, hr⟩
    · simp only [toP, toPs, PyData.depth, PyData.depthAll] at hm
      obtain ⟨r, rfl, hr⟩ := ih y (by omega) hy
      obtain ⟨q, rfl, hq⟩ := ih z (by omega) hz
      rcases hs with rfl | rfl
      · exact ⟨.or r q, rfl, hr, hq⟩
      · exact ⟨.thn r q, rfl, hr, hq⟩
/-- a call that returns and leaves the store -/
theorem call_ret {g : Nat} {d : Def} (h : Φ g = some d) {N : Nat} {ds : List D} {S : Sto} {r : D} (hl : ds.length = d.np ∧ d.np ≤ d.ns) (go : evSs (callN Φ N) d.body (start d ds) S = .ret r S) : callN Φ (N + 1) g ds S = .ok r S := by
  rw [call_of h N ds S hl, go]
  simp [gc_self]
theorem call_ret' {g : Nat} {d : Def} (h : Φ g = some d) {N : Nat} {ds : List D} {S S' : Sto} {r : D} (hl : ds.length = d.np ∧ d.np ≤ d.ns) (go : evSs (callN Φ N) d.body (start d ds) S = .ret r S') : callN Φ (N + 1) g ds S = .ok r (gc S r S') := by
  rw [call_of h N ds S hl, go]
  rfl
theorem pre_pos {N k : Nat} (h : k + 1 ≤ N) : ∃ M, N = M + 1 ∧ k ≤ M := ⟨N - 1, by omega, by omega⟩

/-! ### signs_in, and the law's -/
theorem sgn_len : ∀ r : Re, r.sgn.length ≤ 2 ^ r.ht
  | .none => by simp [Re.sgn]
  | .empty => by simp [Re.sgn]
  | .sign c => by simp [Re.sgn, Re.ht]
  | .or a b => by
    have h1 := sgn_len a
    have h2 := sgn_len b
    have e1 : 2 ^ a.ht ≤ 2 ^ (max a.ht b.ht) := Nat.pow_le_pow_right (by decide) (by omega)
    have e2 : 2 ^ b.ht ≤ 2 ^ (max a.ht b.ht) := Nat.pow_le_pow_right (by decide) (by omega)
    simp only [Re.sgn, Re.ht, List.length_append, Nat.pow_succ]
    omega
  | .thn a b => by
    have h1 := sgn_len a
    have h2 := sgn_len b
    have e1 : 2 ^ a.ht ≤ 2 ^ (max a.ht b.ht) := Nat.pow_le_pow_right (by decide) (by omega)
    have e2 : 2 ^ b.ht ≤ 2 ^ (max a.ht b.ht) := Nat.pow_le_pow_right (by decide) (by omega)
    simp only [Re.sgn, Re.ht, List.length_append, Nat.pow_succ]
    omega
  | .star a => by
    have h1 := sgn_len a
    simp only [Re.sgn, Re.ht, Nat.pow_succ]
    omega
theorem sgn_sz {r : Re} (h : r.ht ≤ 20) : r.sgn.length ≤ 1048576 := by
  have h1 := sgn_len r
  have : 2 ^ r.ht ≤ 2 ^ 20 := Nat.pow_le_pow_right (by decide) h
  omega
theorem joined_nil : ∀ ts : List (List Nat), joined [] ts = ts.flatten
  | [] => rfl
  | [x] => by simp [joined]
  | x :: y :: r => by
    have := joined_nil (y :: r)
    simp [joined, this]
/-- both defs have the same text, but for their numbers -/
theorem signs_gen {g : Nat} {df : Def} (hg : Φ g = some df) (hdf : df = ⟨1, 2, (.cons (.ifs (.cmp .eq (.sub (.var 0) (.cst (.int 0))) (.cst (.str sSign))) (.cons (.ret (.sub (.var 0) (.cst (.int 1)))) .nil) .nil) (.cons (.ret (.mth .join (.cst (.str [])) (.cons (.comp (.call g (.cons (.var 1) .nil)) (.name 1) (.val (.slc (.var 0) (.yes (.cst (.int 1))) .no)) .no [1]) .nil))) .nil))⟩) :
    ∀ (r : Re), r.ht ≤ 20 → ∀ (N : Nat) (S : Sto), r.ht + 1 ≤ N → callN Φ N g [r.d] S = .ok (.str r.sgn) S
  | .none, h20, N, S, hN => by
    obtain ⟨M, rfl, hM⟩ := pre_pos hN
    refine call_ret hg (by subst hdf; exact ⟨rfl, Nat.le_succ 1⟩) ?_
    subst hdf
    have cm : ∀ f, compD (.name 1) (evO (callN Φ M) .no) (evE (callN Φ M) (.call g (.cons (.var 1) .nil))) [1] f ⟨[], []⟩ S = .ok (.lst []) S := fun f => compD_map id fun d hd => by cases hd
    simp [start, Re.d, sub0, cmp_eq (eqD_str' _ _ S), slc1, cm, mthX, recv, mthD, seqOf, items, texts, joined, Re.sgn]
  | .empty, h20, N, S, hN => by
    obtain ⟨M, rfl, hM⟩ := pre_pos hN
    refine call_ret hg (by subst hdf; exact ⟨rfl, Nat.le_succ 1⟩) ?_
    subst hdf
    have cm : ∀ f, compD (.name 1) (evO (callN Φ M) .no) (evE (callN Φ M) (.call g (.cons (.var 1) .nil))) [1] f ⟨[], []⟩ S = .ok (.lst []) S := fun f => compD_map id fun d hd => by cases hd
    simp [start, Re.d, sub0, cmp_eq (eqD_str' _ _ S), slc1, cm, mthX, recv, mthD, seqOf, items, texts, joined, Re.sgn]
  | .sign c, h20, N, S, hN => by
    obtain ⟨M, rfl, hM⟩ := pre_pos hN
    refine call_ret hg (by subst hdf; exact ⟨rfl, Nat.le_succ 1⟩) ?_
    subst hdf
    simp [start, Re.d, sub0, sub1, cmp_eq (eqD_str' _ _ S), Re.sgn]
  | .star a, h20, N, S, hN => by
    obtain ⟨M, rfl, hM⟩ := pre_pos hN
    simp only [Re.ht] at hM h20
    have ih := signs_gen hg hdf a (by omega) M S (by omega)
    have sa := sgn_sz (r := a) (by omega)
    refine call_ret hg (by subst hdf; exact ⟨rfl, Nat.le_succ 1⟩) ?_
    subst hdf
    have cm : ∀ x, compD (.name 1) (evO (callN Φ M) .no) (evE (callN Φ M) (.call g (.cons (.var 1) .nil))) [1] [some x, none] ⟨[], [a.d]⟩ S = .ok (.lst [.str a.sgn]) S := fun x => compD_map (fun _ => .str a.sgn) fun d hd => by
      rw [List.mem_singleton.mp hd]
      exact step_no rfl (by simp [wipe]; exact ih)
    have hsz : a.sgn.length ≤ sz := by show _ ≤ 16777216; omega
    simp [start, Re.d, sub0, cmp_eq (eqD_str' _ _ S), slc1, cm, mthX, recv, mthD, seqOf, items, texts, joined, Re.sgn, hsz]
  | .or a b, h20, N, S, hN => by
    obtain ⟨M, rfl, hM⟩ := pre_pos hN
    simp only [Re.ht] at hM h20
    have ia := signs_gen hg hdf a (by omega) M S (by omega)
    have ib := signs_gen hg hdf b (by omega) M S (by omega)
    have sa := sgn_sz (r := a) (by omega)
    have sb := sgn_sz (r := b) (by omega)
    refine call_ret hg (by subst hdf; exact ⟨rfl, Nat.le_succ 1⟩) ?_
    subst hdf
    have cm : ∀ x, compD (.name 1) (evO (callN Φ M) .no) (evE (callN Φ M) (.call g (.cons (.var 1) .nil))) [1] [some x, none] ⟨[], [a.d, b.d]⟩ S = .ok (.lst [.str a.sgn, .str b.sgn]) S := fun x => by
      unfold compD compL
      simp [chk_nil, stepD, wipe, ia, compL, ib]
    have hsz : a.sgn.length + b.sgn.length ≤ sz := by show _ ≤ 16777216; omega
    simp [start, Re.d, sub0, cmp_eq (eqD_str' _ _ S), slc1, cm, mthX, recv, mthD, seqOf, items, texts, joined, Re.sgn, hsz]
  | .thn a b, h20, N, S, hN => by
    obtain ⟨M, rfl, hM⟩ := pre_pos hN
    simp only [Re.ht] at hM h20
    have ia := signs_gen hg hdf a (by omega) M S (by omega)
    have ib := signs_gen hg hdf b (by omega) M S (by omega)
    have sa := sgn_sz (r := a) (by omega)
    have sb := sgn_sz (r := b) (by omega)
    refine call_ret hg (by subst hdf; exact ⟨rfl, Nat.le_succ 1⟩) ?_
    subst hdf
    have cm : ∀ x, compD (.name 1) (evO (callN Φ M) .no) (evE (callN Φ M) (.call g (.cons (.var 1) .nil))) [1] [some x, none] ⟨[], [a.d, b.d]⟩ S = .ok (.lst [.str a.sgn, .str b.sgn]) S := fun x => by
      unfold compD compL
      simp [chk_nil, stepD, wipe, ia, compL, ib]
    have hsz : a.sgn.length + b.sgn.length ≤ sz := by show _ ≤ 16777216; omega
    simp [start, Re.d, sub0, cmp_eq (eqD_str' _ _ S), slc1, cm, mthX, recv, mthD, seqOf, items, texts, joined, Re.sgn, hsz]
theorem signs_val (h6 : Φ 6 = some f6_signs_in) {r : Re} (h : r.ht ≤ 20) {N : Nat} {S : Sto} (hN : r.ht + 1 ≤ N) : callN Φ N 6 [r.d] S = .ok (.str r.sgn) S := signs_gen h6 rfl r h N S hN
/-! ### the empty word -/
theorem empties_val (h9 : Φ 9 = some f9_empties) : ∀ (r : Re) (N : Nat) (S : Sto), r.ht + 1 ≤ N → callN Φ N 9 [r.d] S = .ok (.bl r.nul) S := by
  have dE : Dt (.str sEmpty) := dts rfl
  have dT : Dt (.str sStar) := dts rfl
  intro r
  induction r with
  | none =>
    intro N S hN
    obtain ⟨M, rfl, hM⟩ := pre_pos hN
    exact call_ret h9 ⟨rfl, by decide⟩ (by simp [f9_empties, start, Re.d, Re.nul, sub0, cmp_eq (eqD_str' _ _ S), in_two (dts (x := sNone) rfl) dE dT])
  | empty =>
    intro N S hN
    obtain ⟨M, rfl, hM⟩ := pre_pos hN
    exact call_ret h9 ⟨rfl, by decide⟩ (by simp [f9_empties, start, Re.d, Re.nul, sub0, cmp_eq (eqD_str' _ _ S), in_two (dts (x := sEmpty) rfl) dE dT])
  | sign c =>
    intro N S hN
    obtain ⟨M, rfl, hM⟩ := pre_pos hN
    exact call_ret h9 ⟨rfl, by decide⟩ (by simp [f9_empties, start, Re.d, Re.nul, sub0, cmp_eq (eqD_str' _ _ S), in_two (dts (x := sSign) rfl) dE dT])
  | star a iha =>
    intro N S hN
    obtain ⟨M, rfl, hM⟩ := pre_pos hN
    exact call_ret h9 ⟨rfl, by decide⟩ (by simp [f9_empties, start, Re.d, Re.nul, sub0, cmp_eq (eqD_str' _ _ S), in_two (dts (x := sStar) rfl) dE dT])
  | or a b iha ihb =>
    intro N S hN
    obtain ⟨M, rfl, hM⟩ := pre_pos hN
    simp only [Re.ht] at hM
    have ia := iha M S (by omega)
    have ib := ihb M S (by omega)
    refine call_ret h9 ⟨rfl, by decide⟩ ?_
    cases q : a.nul <;> rw [q] at ia <;> simp [f9_empties, start, Re.d, Re.nul, sub0, sub1, sub2, cmp_eq (eqD_str' _ _ S), ia, ib, q]
  | thn a b iha ihb =>
    intro N S hN
    obtain ⟨M, rfl, hM⟩ := pre_pos hN
    simp only [Re.ht] at hM
    have ia := iha M S (by omega)
    have ib := ihb M S (by omega)
    refine call_ret h9 ⟨rfl, by decide⟩ ?_
    cases q : a.nul <;> rw [q] at ia <;> simp [f9_empties, start, Re.d, Re.nul, sub0, sub1, sub2, cmp_eq (eqD_str' _ _ S), ia, ib, q]
end SL
set_option Elab.async false
set_option linter.all false
set_option maxRecDepth 100000
set_option maxHeartbeats 2000000
/-! D2: what a pattern tells; places in a word; the law's matcher. -/
namespace SL
open PySem
variable {Φ : Nat → Option Def}
/-- the pattern tells the word -/
inductive M : Re → List Nat → Prop
  | empty : M .empty []
  | sign (c : Nat) : M (.sign c) [c]
  | orL {a b : Re} {u : List Nat} : M a u → M (.or a b) u
  | orR {a b : Re} {u : List Nat} : M b u → M (.or a b) u
  | thn {a b : Re} {u v : List Nat} : M a u → M b v → M (.thn a b) (u ++ v)
  | star0 {a : Re} : M (.star a) []
  | star1 {a : Re} {u v : List Nat} : M a u → M (.star a) v → M (.star a) (u ++ v)
theorem M_none {w : List Nat} : ¬ M .none w := fun h => by cases h
theorem M_empty {w : List Nat} : M .empty w ↔ w = [] := ⟨fun h => by cases h; rfl, fun h => h ▸ .empty⟩
theorem M_sign {c : Nat} {w : List Nat} : M (.sign c) w ↔ w = [c] := ⟨fun h => by cases h; rfl, fun h => h ▸ .sign c⟩
theorem M_or {a b : Re} {w : List Nat} : M (.or a b) w ↔ M a w ∨ M b w := ⟨fun h => by
  cases h with
  | orL h => exact .inl h
  | orR h => exact .inr h, fun h => h.elim .orL .orR⟩
theorem M_thn {a b : Re} {w : List Nat} : M (.thn a b) w ↔ ∃ u v, w = u ++ v ∧ M a u ∧ M b v := ⟨fun h => by
  cases h with
  | thn h1 h2 => exact ⟨_, _, rfl, h1, h2⟩, fun ⟨u, v, e, h1, h2⟩ => e ▸ .thn h1 h2⟩
theorem nul_M : ∀ r : Re, r.nul = true ↔ M r []
  | .none => ⟨fun h => (by cases h), fun h => (M_none h).elim⟩
  | .empty => ⟨fun _ => .empty, fun _ => rfl⟩
  | .sign c => ⟨fun h => (by cases h), fun h => (by have := M_sign.mp h; cases this)⟩
  | .or a b => by
    rw [M_or, ← nul_M a, ← nul_M b]
    simp [Re.nul]
  | .thn a b => by
    rw [M_thn]
    simp only [Re.nul, Bool.and_eq_true, nul_M a, nul_M b]
    constructor
    · rintro ⟨h1, h2⟩
      exact ⟨[], [], rfl, h1, h2⟩
    · rintro ⟨u, v, e, h1, h2⟩
      obtain ⟨rfl, rfl⟩ := List.append_eq_nil_iff.mp e.symm
      exact ⟨h1, h2⟩
  | .star a => ⟨fun _ => .star0, fun _ => rfl⟩
/-! ### stretches of a word -/
def seg (w : List Nat) (i j : Nat) : List Nat := (w.drop i).take (j - i)
theorem seg_len {w : List Nat} {i j : Nat} (h : i ≤ j) (hj : j ≤ w.length) : (seg w i j).length = j - i := by
  unfold seg
  rw [List.length_take, List.length_drop]
  omega
theorem seg_app {w : List Nat} {i k j : Nat} (h1 : i ≤ k) (h2 : k ≤ j) : seg w i j = seg w i k ++ seg w k j := by
  unfold seg
  have e1 : j - i = (k - i) + (j - k) := by omega
  have e2 : w.drop k = (w.drop i).drop (k - i) := by rw [List.drop_drop]; congr 1; omega
  rw [e1, e2, List.take_add]
theorem seg_split {w u v : List Nat} {i j : Nat} (h : i ≤ j) (hj : j ≤ w.length) (e : seg w i j = u ++ v) : i + u.length ≤ j ∧ u = seg w i (i + u.length) ∧ v = seg w (i + u.length) j := by
  have l := seg_len h hj
  rw [e, List.length_append] at l
  have hk : i + u.length ≤ j := by omega
  have e2 := seg_app (w := w) (i := i) (k := i + u.length) (j := j) (by omega) hk
  rw [e] at e2
  have l2 := seg_len (w := w) (i := i) (j := i + u.length) (by omega) (by omega)
  obtain ⟨h1, h2⟩ := List.append_inj e2 (by rw [l2]; omega)
  exact ⟨hk, h1, h2⟩
def Rl (r : Re) (w : List Nat) (i j : Nat) : Prop := i ≤ j ∧ j ≤ w.length ∧ M r (seg w i j)
theorem Rl_none {w : List Nat} {i j : Nat} : ¬ Rl .none w i j := fun h => M_none h.2.2
theorem Rl_empty {w : List Nat} {i j : Nat} (hi : i ≤ w.length) : Rl .empty w i j ↔ j = i := by
  unfold Rl
  rw [M_empty]
  constructor
  · rintro ⟨h1, h2, h3⟩
    have := seg_len h1 h2
    rw [h3] at this
    simp at this
    omega
  · rintro rfl
    exact ⟨Nat.le_refl _, hi, by simp [seg]⟩
theorem Rl_sign {c : Nat} {w : List Nat} {i j : Nat} : Rl (.sign c) w i j ↔ j = i + 1 ∧ (w.drop i).take 1 = [c] := by
  unfold Rl
  rw [M_sign]
  constructor
  · rintro ⟨h1, h2, h3⟩
    have := seg_len h1 h2
    rw [h3] at this
    simp at this
    have e : j = i + 1 := by omega
    subst e
    refine ⟨rfl, ?_⟩
    unfold seg at h3
    rw [show i + 1 - i = 1 by omega] at h3
    exact h3
  · rintro ⟨rfl, h⟩
    have hl : i < w.length := by
      by_cases q : i < w.length
      · exact q
      · rw [List.drop_eq_nil_of_le (by omega)] at h
        cases h
    refine ⟨by omega, by omega, ?_⟩
    unfold seg
    rw [show i + 1 - i = 1 by omega]
    exact h
theorem Rl_or {a b : Re} {w : List Nat} {i j : Nat} : Rl (.or a b) w i j ↔ Rl a w i j ∨ Rl b w i j := by
  unfold Rl
  rw [M_or]
  constructor
  · rintro ⟨h1, h2, h3 | h3⟩
    · exact .inl ⟨h1, h2, h3⟩
    · exact .inr ⟨h1, h2, h3⟩
  · rintro (⟨h1, h2, h3⟩ | ⟨h1, h2, h3⟩)
    · exact ⟨h1, h2, .inl h3⟩
    · exact ⟨h1, h2, .inr h3⟩
theorem Rl_thn {a b : Re} {w : List Nat} {i j : Nat} : Rl (.thn a b) w i j ↔ ∃ k, Rl a w i k ∧ Rl b w k j := by
  unfold Rl
  rw [M_thn]
  constructor
  · rintro ⟨h1, h2, u, v, e, h3, h4⟩
    obtain ⟨hk, e1, e2⟩ := seg_split h1 h2 e
    exact ⟨i + u.length, ⟨by omega, by omega, e1 ▸ h3⟩, hk, h2, e2 ▸ h4⟩
  · rintro ⟨k, ⟨h1, h2, h3⟩, h4, h5, h6⟩
    exact ⟨by omega, h5, _, _, seg_app h1 h4, h3, h6⟩
inductive Cl (R : Nat → Nat → Prop) : Nat → Nat → Prop
  | refl (i : Nat) : Cl R i i
  | step {i k j : Nat} : R i k → Cl R k j → Cl R i j
theorem Cl.snoc {R : Nat → Nat → Prop} {i k j : Nat} (h : Cl R i k) (q : R k j) : Cl R i j := by
  induction h with
  | refl i => exact .step q (.refl _)
  | step a b ih => exact .step a (ih q)
theorem Rl_star {a : Re} {w : List Nat} {i j : Nat} (hi : i ≤ w.length) : Rl (.star a) w i j ↔ Cl (Rl a w) i j := by
  constructor
  · rintro ⟨h1, h2, h3⟩
    generalize e : seg w i j = s at h3
    generalize er : Re.star a = r at h3
    induction h3 generalizing i with
    | star0 =>
      have := seg_len h1 h2
      rw [e] at this
      simp at this
      have : j = i := by omega
      subst this
      exact .refl _
    | star1 q1 q2 _ ih =>
      cases er
      obtain ⟨hk, e1, e2⟩ := seg_split h1 h2 e
      exact .step ⟨by omega, by omega, e1 ▸ q1⟩ (ih (by omega) hk e2.symm rfl)
    | _ => cases er
  · intro h
    induction h with
    | refl i => exact ⟨Nat.le_refl _, hi, by simp [seg]; exact .star0⟩
    | step q _ ih =>
      obtain ⟨h1, h2, h3⟩ := q
      obtain ⟨h4, h5, h6⟩ := ih h2
      refine ⟨by omega, h5, ?_⟩
      rw [seg_app h1 h4]
      exact .star1 h3 h6
/-! ### lists of places -/
def inz (l : List Nat) : List D := l.map fun i => .int (i : Nat)
theorem ints_app (a b : List Nat) : inz a ++ inz b = inz (a ++ b) := by simp [inz]
theorem ints_dts (l : List Nat) : ∀ d ∈ inz l, Dt d := fun d hd => by
  obtain ⟨i, _, rfl⟩ := List.mem_map.mp hd
  exact Dt.int
theorem ints_depth (l : List Nat) : PyData.depthAll (toPs (inz l)) = 0 := by
  induction l with
  | nil => rfl
  | cons i l ih =>
    show max _ _ = 0
    rw [show PyData.depthAll (toPs (List.map (fun i => D.int (i : Nat)) l)) = 0 from ih]
    rfl
theorem dt_ints (l : List Nat) : Dt (.lst (inz l)) := (Dt.tup (ints_dts l) (by rw [ints_depth]; omega)).2
theorem ne_ints (l : List Nat) (S : Sto) : cmpD .ne (.lst (inz l)) (.lst []) S = .ok (.bl (!l.isEmpty)) S := by
  rw [cmp_ne (eqD_dt (dt_ints l) ⟨rfl, rfl, by decide⟩ S)]
  cases l <;> simp [inz, toP, toPs, PyData.eqv, PyData.eqvAll]
theorem any_ints (i : Nat) (l : List Nat) : ((toPs (inz l)).any fun y => PyData.eqv y (toP (.int (i : Nat)))) = decide (i ∈ l) := by
  induction l with
  | nil => rfl
  | cons j l ih =>
    have e : toPs (inz (j :: l)) = PyData.int (j : Nat) :: toPs (inz l) := rfl
    rw [e, List.any_cons, ih]
    by_cases h : j = i
    · subst h; simp [toP, PyData.eqv]
    · have : ¬ ((j : Int) = (i : Int)) := by omega
      simp [toP, PyData.eqv, this, Ne.symm h]
theorem in_ints (i : Nat) (l : List Nat) (S : Sto) : inD S (.int (i : Nat)) (.lst (inz l)) = some (decide (i ∈ l)) := by
  rw [inD_lst Dt.int (ints_dts l), any_ints]
theorem nodup_len {n : Nat} : ∀ {l : List Nat}, l.Nodup → (∀ i ∈ l, i ≤ n) → l.length ≤ n + 1 := by
  induction n with
  | zero =>
    intro l h b
    match l, h, b with
    | [], _, _ => simp
    | [_], _, _ => simp
    | x :: y :: r, h, b =>
      have h1 := b x (by simp)
      have h2 := b y (by simp)
      have : x = y := by omega
      subst this
      simp at h
  | succ n ih =>
    intro l h b
    have h1 : (l.erase (n + 1)).Nodup := h.erase _
    have h2 := ih h1 fun i hi => by
      have h3 := (h.mem_erase_iff.mp hi)
      have := b i h3.2
      omega
    have h4 : l.length ≤ (l.erase (n + 1)).length + 1 := by
      rw [List.length_erase]
      split <;> omega
    omega
/-- each once -/
def dd (acc : List Nat) : List Nat → List Nat
  | [] => acc
  | i :: l => dd (if i ∈ acc then acc else acc ++ [i]) l
theorem mem_dd : ∀ (l acc : List Nat) (j : Nat), j ∈ dd acc l ↔ j ∈ acc ∨ j ∈ l
  | [], acc, j => by simp [dd]
  | i :: l, acc, j => by
    unfold dd
    rw [mem_dd l]
    by_cases h : i ∈ acc
    · rw [if_pos h]
      constructor
      · rintro (h1 | h1)
        · exact .inl h1
        · exact .inr (List.mem_cons_of_mem _ h1)
      · rintro (h1 | h1)
        · exact .inl h1
        · rcases List.mem_cons.mp h1 with rfl | h1
          · exact .inl h
          · exact .inr h1
    · rw [if_neg h]
      simp [or_assoc]
theorem nodup_dd : ∀ (l acc : List Nat), acc.Nodup → (dd acc l).Nodup
  | [], acc, h => h
  | i :: l, acc, h => by
    unfold dd
    refine nodup_dd l _ ?_
    by_cases q : i ∈ acc
    · rw [if_pos q]; exact h
    · rw [if_neg q, List.nodup_append]
      exact ⟨h, by simp, fun a ha b hb e => by rw [List.mem_singleton.mp hb] at e; exact q (e ▸ ha)⟩
def dks (l : List Nat) : List DK := l.map fun i => .int (i : Nat)
theorem mem_dks {i : Nat} {l : List Nat} : (DK.int (i : Nat)) ∈ dks l ↔ i ∈ l := by
  unfold dks
  rw [List.mem_map]
  constructor
  · rintro ⟨j, hj, e⟩
    have : (j : Int) = i := by injection e
    have : j = i := by omega
    exact this ▸ hj
  · exact fun h => ⟨i, h, rfl⟩
def bodyOnce : Ss := .cons (.put (.var 1) (.var 2) (.cst (.bl true))) .nil
theorem once_loop (c : Nat → List D → Sto → Out D) (x : D) (S0 : Sto) : ∀ (l acc : List Nat) (ds : List D) (o : Option D), acc.length + l.length ≤ sz → ∃ ds' o', forL [] (forB (.name 2) (evSs c bodyOnce)) (inz l) [some x, some (.ref S0.length), o] (S0 ++ [.dct (dks acc) ds]) = .nx [some x, some (.ref S0.length), o'] (S0 ++ [.dct (dks (dd acc l)) ds'])
  | [], acc, ds, o, _ => ⟨ds, o, by unfold inz; rw [List.map_nil]; unfold forL; rw [if_pos (chk_nil _)]; rfl⟩
  | i :: l, acc, ds, o, h => by
    rw [List.length_cons] at h
    have hk : (S0 ++ [Ob.dct (dks acc) ds])[S0.length]? = some (.dct (dks acc) ds) := by simp
    have hl : (dks acc).length < sz := by unfold dks; rw [List.length_map]; omega
    have step : forB (.name 2) (evSs c bodyOnce) (.int (i : Nat)) [some x, some (.ref S0.length), o] (S0 ++ [.dct (dks acc) ds]) = .nx [some x, some (.ref S0.length), some (.int (i : Nat))] (S0 ++ [.dct (dks (if i ∈ acc then acc else acc ++ [i])) (kPutD (dks acc) ds (.int (i : Nat)) (.bl true))]) := by
      have e : kPutK (dks acc) (.int (i : Nat)) = dks (if i ∈ acc then acc else acc ++ [i]) := by
        unfold kPutK
        by_cases q : i ∈ acc
        · rw [if_pos (mem_dks.mpr q), if_pos q]
        · rw [if_neg (fun z => q (mem_dks.mp z)), if_neg q]
          simp [dks]
      simp only [forB, bodyOnce, bind_name, setAt_succ, setAt_zero, evSs_cons, evS_put, ev_cst, Out.so_ok, ev_var, getS_succ, getS_zero, putD, hk, putM, dkOf, if_pos hl, thenS_nx, evSs_nil, e]
      simp
    unfold inz
    rw [List.map_cons]
    unfold forL
    rw [if_pos (chk_nil _), step]
    dsimp only
    have hlen : (if i ∈ acc then acc else acc ++ [i]).length + l.length ≤ sz := by
      split
      · omega
      · rw [List.length_append, List.length_singleton]; omega
    obtain ⟨ds', o', e⟩ := once_loop c x S0 l _ _ (some (.int (i : Nat))) hlen
    exact ⟨ds', o', e⟩
theorem once_val (h19 : Φ 19 = some f19_L_once) {l : List Nat} {N : Nat} {S : Sto} (hl : l.length ≤ sz) (hN : 1 ≤ N) : callN Φ N 19 [.lst (inz l)] S = .ok (.lst (inz (dd [] l))) S := by
  obtain ⟨M, rfl, _⟩ := pre_pos (k := 0) hN
  obtain ⟨ds', o', e⟩ := once_loop (callN Φ M) (.lst (inz l)) S l [] [] none (by simpa using hl)
  have hk : (S ++ [Ob.dct (dks (dd [] l)) ds'])[S.length]? = some (.dct (dks (dd [] l)) ds') := by simp
  have go : evSs (callN Φ M) f19_L_once.body (start f19_L_once [.lst (inz l)]) S = .ret (.lst (inz (dd [] l))) (S ++ [.dct (dks (dd [] l)) ds']) := by
    have e0 : dnewD S = .ok (.ref S.length) (S ++ [.dct [] []]) := rfl
    have e1 : ∀ f T, evE (callN Φ M) .dnew f T = dnewD T := fun f T => by unfold evE; rfl
    have e2 : ∀ f T, evE (callN Φ M) (.keys 1 2) f T = keysV f 1 2 T := fun f T => by unfold evE; rfl
    have e3 : (dks (dd [] l)).map dkD = inz (dd [] l) := by simp [dks, inz, dkD]
    have e' : forL [] (forB (.name 2) (evSs (callN Φ M) (.cons (.put (.var 1) (.var 2) (.cst (.bl true))) .nil))) (inz l) [some (.lst (inz l)), some (.ref S.length), none] (S ++ [.dct [] []]) = .nx [some (.lst (inz l)), some (.ref S.length), o'] (S ++ [.dct (dks (dd [] l)) ds']) := e
    simp only [f19_L_once, start, evSs_cons, evS_asg, e1, e0, Out.so_ok, asg_name]
    simp [e', e2, keysV, keysD, hk, e3]
  rw [call_ret' h19 ⟨rfl, by decide⟩ go]
  have : gc S (.lst (inz (dd [] l))) (S ++ [.dct (dks (dd [] l)) ds']) = S := by
    unfold gc
    rw [if_pos]
    refine ⟨⟨2, fun d hd => ?_⟩, ⟨_, rfl⟩⟩
    obtain ⟨i, _, rfl⟩ := List.mem_map.mp hd
    trivial
  rw [this]
end SL
set_option Elab.async false
set_option linter.all false
set_option maxRecDepth 100000
set_option maxHeartbeats 2000000
/-! D3: the law's matcher finds just the places. -/
namespace SL
open PySem
variable {Φ : Nat → Option Def}
structure PhiM (Φ : Nat → Option Def) : Prop where
  h18 : Φ 18 = some f18_L_ends
  h19 : Φ 19 = some f19_L_once
  h20 : Φ 20 = some f20_L_tells
structure Ends (r : Re) (w s l : List Nat) : Prop where
  nd : l.Nodup
  le : ∀ j ∈ l, j ≤ w.length
  iff : ∀ j, j ∈ l ↔ ∃ i ∈ s, Rl r w i j
theorem cut_one {w : List Nat} {i : Nat} (hi : i ≤ w.length) : cut w (some (i : Int)) (some ((i : Int) + 1)) = (w.drop i).take 1 := by
  unfold cut cutAt
  have h1 : ¬ ((i : Int) < 0) := by omega
  have h2 : ¬ ((i : Int) + 1 < 0) := by omega
  have e1 : min (i : Int).toNat w.length = i := by omega
  have e2 : ((i : Int) + 1).toNat = i + 1 := by omega
  simp only [if_neg h1, if_neg h2, e1, e2]
  by_cases q : i + 1 ≤ w.length
  · rw [show min (i + 1) w.length - i = 1 by omega]
  · rw [show min (i + 1) w.length - i = 0 by omega, List.drop_eq_nil_of_le (by omega)]
    rfl
theorem step_sign (c : Nat → List D → Sto → Out D) {w : List Nat} {x : D} {a : Nat} {i : Nat} {S : Sto} {s k o1 o2 : Option D} (hx : subD x (.int 1) S = .ok (.str [a]) S) (hw : w.length ≤ sz) (hi : i ≤ w.length) :
    stepD (.name 6) (evO c (.yes (.cmp .eq (.slc (.var 1) (.yes (.var 6)) (.yes (.bin .add (.var 6) (.cst (.int 1))))) (.sub (.var 0) (.cst (.int 1)))))) (evE c (.bin .add (.var 6) (.cst (.int 1)))) [some x, some (.str w), s, k, o1, o2, none] (.int (i : Nat)) S = .ok (if decide ((w.drop i).take 1 = [a]) then some (.int ((i + 1 : Nat) : Int)) else none) S := by
  refine step_yes (f' := [some x, some (.str w), s, k, o1, o2, some (.int (i : Nat))]) rfl ?_ (fun _ => ?_)
  · have sl : slcD (.str w) (some (i : Int)) (some ((i : Int) + 1)) S = .ok (.str ((w.drop i).take 1)) S := by
      unfold slcD
      dsimp only
      rw [if_pos hw, cut_one hi]
    simp [binD, sl, hx, cmp_eq (eqD_str' _ _ S)]
  · simp [binD]
theorem map_inz (l : List Nat) (p : Nat → Bool) : (((inz l).filter fun d => match d with | .int i => p i.toNat | _ => false).map fun d => match d with | .int i => .int ((i.toNat + 1 : Nat) : Int) | d => d) = inz ((l.filter p).map (· + 1)) := by
  induction l with
  | nil => rfl
  | cons i l ih =>
    have e : inz (i :: l) = .int (i : Nat) :: inz l := rfl
    rw [e, List.filter_cons, List.filter_cons]
    cases q : p i
    · simp only [Int.toNat_natCast, q, Bool.false_eq_true, if_false]; exact ih
    · simp only [Int.toNat_natCast, q, if_true, List.map_cons, ih]
      rfl
theorem filter_inz (l : List Nat) (p : Nat → Bool) : ((inz l).filter fun d => match d with | .int i => p i.toNat | _ => false) = inz (l.filter p) := by
  induction l with
  | nil => rfl
  | cons i l ih =>
    have e : inz (i :: l) = .int (i : Nat) :: inz l := rfl
    rw [e, List.filter_cons, List.filter_cons]
    cases q : p i
    · simp [q]; exact ih
    · simp only [Int.toNat_natCast, q, if_true, ih]
      rfl
theorem filter_map_succ {l : List Nat} {p : Nat → Bool} (h : l.Nodup) : ((l.filter p).map (· + 1)).Nodup := by
  have h2 : (l.filter p).Nodup := h.filter _
  unfold List.Nodup at h2 ⊢
  rw [List.pairwise_map]
  exact h2.imp fun {a b} q e => q (by omega)
theorem while_go {t : FS → Sto → Out D} {bd : FS → Sto → SO} {n : Nat} {f f' : FS} {S S1 S' : Sto} {r : Option SO} (h1 : t f S = .ok (.bl true) S1) (h2 : bd f S1 = .nx f' S') (h3 : whileN t bd n f' S' = r) : whileN t bd (n + 1) f S = r := by
  unfold whileN
  rw [h1]
  dsimp only
  rw [h2]
  exact h3
theorem while_end {t : FS → Sto → Out D} {bd : FS → Sto → SO} {n : Nat} {f : FS} {S S1 : Sto} (h1 : t f S = .ok (.bl false) S1) : whileN t bd (n + 1) f S = some (.nx f S1) := by
  unfold whileN
  rw [h1]
def starTest : E := .cmp .ne (.var 5) (.lst .nil)
def starBody : Ss := .cons (.asg (.name 5) (.comp (.var 6) (.name 6) (.val (.call 18 (.cons (.sub (.var 0) (.cst (.int 1))) (.cons (.var 1) (.cons (.var 5) .nil))))) (.yes (.cmp .notin (.var 6) (.var 4))) [6])) (.cons (.asg (.name 4) (.bin .add (.var 4) (.var 5))) .nil)
theorem star_loop {c : Nat → List D → Sto → Out D} {a : Re} {w : List Nat} {S : Sto} {st kd : Option D} (hw : w.length ≤ 10000)
    (ih : ∀ s : List Nat, s.Nodup → (∀ i ∈ s, i ≤ w.length) → ∃ l, c 18 [a.d, .str w, .lst (inz s)] S = .ok (.lst (inz l)) S ∧ Ends a w s l) (s : List Nat) :
    ∀ (m : Nat) (found fresh : List Nat) (o6 : Option D), w.length + 2 ≤ found.length + m → found.Nodup → (∀ i ∈ found, i ≤ w.length) → fresh.Nodup → (∀ i ∈ fresh, i ∈ found) → (∀ i ∈ s, i ∈ found) → (∀ j ∈ found, ∃ i ∈ s, Cl (Rl a w) i j) → (∀ i ∈ found, i ∉ fresh → ∀ j, Rl a w i j → j ∈ found) →
    ∃ (n : Nat) (l : List Nat) (f' : FS), whileN (evE c starTest) (evSs c starBody) n [some (Re.star a).d, some (.str w), st, kd, some (.lst (inz found)), some (.lst (inz fresh)), o6] S = some (.nx f' S) ∧ getS f' 4 S = .ok (.lst (inz l)) S ∧ l.Nodup ∧ (∀ j ∈ l, j ≤ w.length) ∧ ∀ j, j ∈ l ↔ ∃ i ∈ s, Cl (Rl a w) i j
  := by
  intro m
  induction m with
  | zero =>
    intro found fresh o6 hm nd hle
    have := nodup_len nd hle
    omega
  | succ m nxt0 =>
    intro found fresh o6 hm nd hle ndf hsub hs hcl hdone
    have hlen := nodup_len nd hle
    have key : ∀ {fd : List Nat}, (∀ i ∈ fd, ∀ j, Rl a w i j → j ∈ fd) → ∀ i j, Cl (Rl a w) i j → i ∈ fd → j ∈ fd := by
      intro fd hd i j h
      induction h with
      | refl i => exact id
      | step q _ ih2 => exact fun hi => ih2 (hd _ hi _ q)
    have test : evE c starTest [some (Re.star a).d, some (.str w), st, kd, some (.lst (inz found)), some (.lst (inz fresh)), o6] S = .ok (.bl (!fresh.isEmpty)) S := by
      simp [starTest, ne_ints]
    cases hf : fresh with
    | nil =>
      subst hf
      refine ⟨1, found, _, while_end (by rw [test]; rfl), rfl, nd, hle, fun j => ⟨hcl j, ?_⟩⟩
      rintro ⟨i, hi, h⟩
      exact key (fun i hi j hr => hdone i hi (by simp) j hr) i j h (hs i hi)
    | cons y ys =>
      rw [← hf]
      have tT : evE c starTest [some (Re.star a).d, some (.str w), st, kd, some (.lst (inz found)), some (.lst (inz fresh)), o6] S = .ok (.bl true) S := by rw [test, hf]; rfl
      obtain ⟨l, hc, he⟩ := ih fresh ndf fun i hi => hle i (hsub i hi)
      have cm : compD (.name 6) (evO c (.yes (.cmp .notin (.var 6) (.var 4)))) (evE c (.var 6)) [6] [some (Re.star a).d, some (.str w), st, kd, some (.lst (inz found)), some (.lst (inz fresh)), o6] ⟨[], inz l⟩ S = .ok (.lst (inz (l.filter fun i => !decide (i ∈ found)))) S := by
        rw [compD_filter (fun d => match d with | .int i => !decide (i.toNat ∈ found) | _ => false) id fun e he2 => ?_]
        · rw [List.map_id]
          exact congrArg (fun z => Out.ok (D.lst z) S) (filter_inz l fun i => !decide (i ∈ found))
        · obtain ⟨i, _, rfl⟩ := List.mem_map.mp he2
          exact step_yes (f' := [some (Re.star a).d, some (.str w), st, kd, some (.lst (inz found)), some (.lst (inz fresh)), some (.int (i : Nat))]) rfl (by simp [cmp_notin (in_ints i found S)]) (fun _ => by simp)
      have hl2 : (l.filter fun i => !decide (i ∈ found)).Nodup := he.nd.filter _
      have nd2 : (found ++ l.filter fun i => !decide (i ∈ found)).Nodup := by
        rw [List.nodup_append]
        refine ⟨nd, hl2, fun x hx z hz e => ?_⟩
        have := (List.mem_filter.mp hz).2
        subst e
        simp [hx] at this
      have le2 : ∀ i ∈ found ++ l.filter fun i => !decide (i ∈ found), i ≤ w.length := fun i hi => by
        rcases List.mem_append.mp hi with h | h
        · exact hle i h
        · exact he.le i (List.mem_filter.mp h).1
      have hlen2 := nodup_len nd2 le2
      have body : evSs c starBody [some (Re.star a).d, some (.str w), st, kd, some (.lst (inz found)), some (.lst (inz fresh)), o6] S = .nx [some (Re.star a).d, some (.str w), st, kd, some (.lst (inz (found ++ l.filter fun i => !decide (i ∈ found)))), some (.lst (inz (l.filter fun i => !decide (i ∈ found)))), o6] S := by
        have ad : binD .add (.lst (inz found)) (.lst (inz (l.filter fun i => !decide (i ∈ found)))) S = .ok (.lst (inz (found ++ l.filter fun i => !decide (i ∈ found)))) S := by
          have : (inz found).length + (inz (l.filter fun i => !decide (i ∈ found))).length ≤ sz := by
            simp only [inz, List.length_map]
            rw [List.length_append] at hlen2
            show _ ≤ 16777216
            omega
          simp only [binD, items, if_pos this, ints_app]
        have s1 : subD (Re.star a).d (.int 1) S = .ok a.d S := sub1 _ _ _ _
        simp [starBody, s1, hc, cm, ad]
      have nxt := nxt0 (found ++ l.filter fun i => !decide (i ∈ found)) (l.filter fun i => !decide (i ∈ found)) o6
      by_cases hz : (l.filter fun i => !decide (i ∈ found)) = []
      · -- nothing new: one turn more ends it
        rw [hz, List.append_nil] at body
        have test2 : evE c starTest [some (Re.star a).d, some (.str w), st, kd, some (.lst (inz found)), some (.lst (inz [])), o6] S = .ok (.bl false) S := by
          simp [starTest, ne_ints]
        have hdone2 : ∀ i ∈ found, ∀ j, Rl a w i j → j ∈ found := fun i hi j hr => by
          by_cases q : i ∈ fresh
          · have : j ∈ l := (he.iff j).mpr ⟨i, q, hr⟩
            by_cases q2 : j ∈ found
            · exact q2
            · have : j ∈ l.filter fun i => !decide (i ∈ found) := List.mem_filter.mpr ⟨this, by simp [q2]⟩
              rw [hz] at this
              cases this
          · exact hdone i hi q j hr
        refine ⟨2, found, _, while_go tT body (while_end test2), rfl, nd, hle, fun j => ⟨hcl j, ?_⟩⟩
        rintro ⟨i, hi, h⟩
        exact key hdone2 i j h (hs i hi)
      · have hpos : 1 ≤ (l.filter fun i => !decide (i ∈ found)).length := by
          cases q : (l.filter fun i => !decide (i ∈ found)) with
          | nil => exact absurd q hz
          | cons _ _ => simp
        obtain ⟨n, l', f', e1, e2, e3, e4, e5⟩ := nxt (by rw [List.length_append]; omega) nd2 le2 hl2 (fun i hi => List.mem_append_right _ hi) (fun i hi => List.mem_append_left _ (hs i hi)) (fun j hj => by
            rcases List.mem_append.mp hj with h | h
            · exact hcl j h
            · obtain ⟨i, hi, hr⟩ := (he.iff j).mp (List.mem_filter.mp h).1
              obtain ⟨i0, hi0, hc0⟩ := hcl i (hsub i hi)
              exact ⟨i0, hi0, hc0.snoc hr⟩) (fun i hi hn j hr => by
            rcases List.mem_append.mp hi with h | h
            · by_cases q : i ∈ fresh
              · have hj : j ∈ l := (he.iff j).mpr ⟨i, q, hr⟩
                by_cases q2 : j ∈ found
                · exact List.mem_append_left _ q2
                · exact List.mem_append_right _ (List.mem_filter.mpr ⟨hj, by simp [q2]⟩)
              · exact List.mem_append_left _ (hdone i h q j hr)
            · exact absurd h hn)
        exact ⟨n + 1, l', f', while_go tT body e1, e2, e3, e4, e5⟩
end SL
set_option Elab.async false
set_option linter.all false
set_option maxRecDepth 100000
set_option maxHeartbeats 2000000
/-! D4: the law's matcher, whole. -/
namespace SL
open PySem
variable {Φ : Nat → Option Def}
theorem ends_val (P : PhiM Φ) {w : List Nat} (hw : w.length ≤ 10000) : ∀ (r : Re) (N : Nat) (S : Sto), r.ht + 1 ≤ N → ∀ s : List Nat, s.Nodup → (∀ i ∈ s, i ≤ w.length) → ∃ l, callN Φ N 18 [r.d, .str w, .lst (inz s)] S = .ok (.lst (inz l)) S ∧ Ends r w s l := by
  have hsz : w.length ≤ sz := by show _ ≤ 16777216; omega
  intro r
  induction r with
  | none =>
    intro N S hN s nd hs
    obtain ⟨M, rfl, hM⟩ := pre_pos hN
    refine ⟨[], call_ret P.h18 ⟨rfl, by decide⟩ ?_, List.nodup_nil, fun j hj => (by cases hj), fun j => ⟨fun h => (by cases h), fun ⟨i, _, h⟩ => (Rl_none h).elim⟩⟩
    simp [f18_L_ends, start, Re.d, sub0, cmp_eq (eqD_str' _ _ S), inz]
  | empty =>
    intro N S hN s nd hs
    obtain ⟨M, rfl, hM⟩ := pre_pos hN
    refine ⟨s, call_ret P.h18 ⟨rfl, by decide⟩ ?_, nd, hs, fun j => ⟨fun h => ⟨j, h, (Rl_empty (hs j h)).mpr rfl⟩, fun ⟨i, hi, h⟩ => by rw [(Rl_empty (hs i hi)).mp h]; exact hi⟩⟩
    simp [f18_L_ends, start, Re.d, sub0, cmp_eq (eqD_str' _ _ S)]
  | sign c =>
    intro N S hN s nd hs
    obtain ⟨M, rfl, hM⟩ := pre_pos hN
    refine ⟨(s.filter fun i => decide ((w.drop i).take 1 = [c])).map (· + 1), call_ret P.h18 ⟨rfl, by decide⟩ ?_, filter_map_succ nd, fun j hj => ?_, fun j => ?_⟩
    · have cm : compD (.name 6) (evO (callN Φ M) (.yes (.cmp .eq (.slc (.var 1) (.yes (.var 6)) (.yes (.bin .add (.var 6) (.cst (.int 1))))) (.sub (.var 0) (.cst (.int 1)))))) (evE (callN Φ M) (.bin .add (.var 6) (.cst (.int 1)))) [6] [some (Re.sign c).d, some (.str w), some (.lst (inz s)), some (.str sSign), none, none, none] ⟨[], inz s⟩ S = .ok (.lst (inz ((s.filter fun i => decide ((w.drop i).take 1 = [c])).map (· + 1)))) S := by
        rw [compD_filter (fun d => match d with | .int i => decide ((w.drop i.toNat).take 1 = [c]) | _ => false) (fun d => match d with | .int i => .int ((i.toNat + 1 : Nat) : Int) | d => d) fun e he => ?_]
        · exact congrArg (fun z => Out.ok (D.lst z) S) (map_inz s fun i => decide ((w.drop i).take 1 = [c]))
        · obtain ⟨i, hi, rfl⟩ := List.mem_map.mp he
          exact step_sign (callN Φ M) (sub1 _ _ _ _) hsz (hs i hi)
      have cm' : compD (.name 6) (evO (callN Φ M) (.yes (.cmp .eq (.slc (.var 1) (.yes (.var 6)) (.yes (.bin .add (.var 6) (.cst (.int 1))))) (.sub (.var 0) (.cst (.int 1)))))) (evE (callN Φ M) (.bin .add (.var 6) (.cst (.int 1)))) [6] [some (.tup [.str sSign, .str [c]]), some (.str w), some (.lst (inz s)), some (.str sSign), none, none, none] ⟨[], inz s⟩ S = .ok (.lst (inz ((s.filter fun i => decide ((w.drop i).take 1 = [c])).map (· + 1)))) S := cm
      have st : start f18_L_ends [(Re.sign c).d, .str w, .lst (inz s)] = [some (.tup [.str sSign, .str [c]]), some (.str w), some (.lst (inz s)), none, none, none, none] := rfl
      rw [st]
      simp [f18_L_ends, sub0, cmp_eq (eqD_str' _ _ S), cm']
    · obtain ⟨i, hi, rfl⟩ := List.mem_map.mp hj
      obtain ⟨h1, h2⟩ := List.mem_filter.mp hi
      exact (Rl_sign.mpr ⟨rfl, of_decide_eq_true h2⟩).2.1
    · rw [List.mem_map]
      constructor
      · rintro ⟨i, hi, rfl⟩
        obtain ⟨h1, h2⟩ := List.mem_filter.mp hi
        exact ⟨i, h1, Rl_sign.mpr ⟨rfl, of_decide_eq_true h2⟩⟩
      · rintro ⟨i, hi, h⟩
        obtain ⟨rfl, h2⟩ := Rl_sign.mp h
        exact ⟨i, List.mem_filter.mpr ⟨hi, decide_eq_true h2⟩, rfl⟩
  | or a b iha ihb =>
    intro N S hN s nd hs
    obtain ⟨M, rfl, hM⟩ := pre_pos hN
    simp only [Re.ht] at hM
    obtain ⟨la, ca, ea⟩ := iha M S (by omega) s nd hs
    obtain ⟨lb, cb, eb⟩ := ihb M S (by omega) s nd hs
    have n1 := nodup_len ea.nd ea.le
    have n2 := nodup_len eb.nd eb.le
    have hl : (la ++ lb).length ≤ sz := by rw [List.length_append]; show _ ≤ 16777216; omega
    have on := once_val P.h19 (N := M) (S := S) hl (by omega)
    refine ⟨dd [] (la ++ lb), call_ret P.h18 ⟨rfl, by decide⟩ ?_, nodup_dd _ _ List.nodup_nil, fun j hj => ?_, fun j => ?_⟩
    · have ad : binD .add (.lst (inz la)) (.lst (inz lb)) S = .ok (.lst (inz (la ++ lb))) S := by
        have : (inz la).length + (inz lb).length ≤ sz := by simp only [inz, List.length_map]; rw [← List.length_append]; exact hl
        simp only [binD, items, if_pos this, ints_app]
      simp [f18_L_ends, start, Re.d, sub0, sub1, sub2, cmp_eq (eqD_str' _ _ S), ca, cb, ad, on]
    · rcases List.mem_append.mp ((mem_dd _ _ _).mp hj |>.resolve_left (by simp)) with h | h
      · exact ea.le j h
      · exact eb.le j h
    · rw [mem_dd]
      simp only [List.not_mem_nil, false_or, List.mem_append, ea.iff, eb.iff]
      constructor
      · rintro (⟨i, hi, h⟩ | ⟨i, hi, h⟩)
        · exact ⟨i, hi, Rl_or.mpr (.inl h)⟩
        · exact ⟨i, hi, Rl_or.mpr (.inr h)⟩
      · rintro ⟨i, hi, h⟩
        rcases Rl_or.mp h with h | h
        · exact .inl ⟨i, hi, h⟩
        · exact .inr ⟨i, hi, h⟩
  | thn a b iha ihb =>
    intro N S hN s nd hs
    obtain ⟨M, rfl, hM⟩ := pre_pos hN
    simp only [Re.ht] at hM
    obtain ⟨la, ca, ea⟩ := iha M S (by omega) s nd hs
    obtain ⟨lb, cb, eb⟩ := ihb M S (by omega) la ea.nd ea.le
    refine ⟨lb, call_ret P.h18 ⟨rfl, by decide⟩ ?_, eb.nd, eb.le, fun j => ?_⟩
    · simp [f18_L_ends, start, Re.d, sub0, sub1, sub2, cmp_eq (eqD_str' _ _ S), ca, cb]
    · rw [eb.iff]
      constructor
      · rintro ⟨k, hk, h⟩
        obtain ⟨i, hi, h2⟩ := (ea.iff k).mp hk
        exact ⟨i, hi, Rl_thn.mpr ⟨k, h2, h⟩⟩
      · rintro ⟨i, hi, h⟩
        obtain ⟨k, h1, h2⟩ := Rl_thn.mp h
        exact ⟨k, (ea.iff k).mpr ⟨i, hi, h1⟩, h2⟩
  | star a iha =>
    intro N S hN s nd hs
    obtain ⟨M, rfl, hM⟩ := pre_pos hN
    simp only [Re.ht] at hM
    obtain ⟨n, l, f', e1, e2, e3, e4, e5⟩ := star_loop (c := callN Φ M) (a := a) (w := w) (S := S) (st := some (.lst (inz s))) (kd := some (.str sStar)) hw (fun s' nd' hs' => iha M S (by omega) s' nd' hs') s (w.length + 2) s s none (by omega) nd hs nd (fun i h => h) (fun i h => h) (fun j h => ⟨j, h, .refl _⟩) (fun i h q => absurd h q)
    refine ⟨l, call_ret P.h18 ⟨rfl, by decide⟩ ?_, e3, e4, fun j => ?_⟩
    · have wl := whl_of e1
      have st : start f18_L_ends [(Re.star a).d, .str w, .lst (inz s)] = [some (.tup [.str sStar, a.d]), some (.str w), some (.lst (inz s)), none, none, none, none] := rfl
      rw [st]
      have wl' : whl (evE (callN Φ M) (.cmp .ne (.var 5) (.lst .nil))) (evSs (callN Φ M) starBody) [some (.tup [.str sStar, a.d]), some (.str w), some (.lst (inz s)), some (.str sStar), some (.lst (inz s)), some (.lst (inz s)), none] S = .nx f' S := wl
      unfold starBody at wl'
      simp [f18_L_ends, sub0, cmp_eq (eqD_str' _ _ S), evS_whl, wl', e2]
    · rw [e5]
      constructor
      · rintro ⟨i, hi, h⟩
        exact ⟨i, hi, (Rl_star (hs i hi)).mpr h⟩
      · rintro ⟨i, hi, h⟩
        exact ⟨i, hi, (Rl_star (hs i hi)).mp h⟩
open Classical in
theorem tells_val (P : PhiM Φ) {w : List Nat} (hw : w.length ≤ 10000) (r : Re) {N : Nat} {S : Sto} (hN : r.ht + 2 ≤ N) : callN Φ N 20 [r.d, .str w] S = .ok (.bl (decide (M r w))) S := by
  have hsz : w.length ≤ sz := by show _ ≤ 16777216; omega
  obtain ⟨K, rfl, hK⟩ := pre_pos (k := r.ht + 1) hN
  obtain ⟨l, hc, he⟩ := ends_val P hw r K S hK [0] (by simp) (fun i hi => by rw [List.mem_singleton.mp hi]; omega)
  refine call_ret P.h20 ⟨rfl, by decide⟩ ?_
  have e : decide (w.length ∈ l) = decide (M r w) := by
    have : (w.length ∈ l) ↔ M r w := by
      rw [he.iff]
      constructor
      · rintro ⟨i, hi, h⟩
        rw [List.mem_singleton.mp hi] at h
        have := h.2.2
        simpa [seg] using this
      · exact fun h => ⟨0, by simp, Nat.zero_le _, Nat.le_refl _, by simpa [seg] using h⟩
    by_cases q : M r w
    · simp [q, this.mpr q]
    · have q2 : ¬ w.length ∈ l := fun z => q (this.mp z)
      simp [q, q2]
  have hc' : callN Φ K 18 [r.d, .str w, .lst [.int 0]] S = .ok (.lst (inz l)) S := hc
  simp [f20_L_tells, start, len_str w hsz, hc', cmp_in (in_ints w.length l S), e]
end SL
set_option Elab.async false
set_option linter.all false
set_option maxRecDepth 100000
set_option maxHeartbeats 2000000
/-! D5: law k01's look at one thing. -/
namespace SL
open PySem
variable {Φ : Nat → Option Def}
theorem cmp_eq_bl (a b : Bool) (S : Sto) : cmpD .eq (.bl a) (.bl b) S = .ok (.bl (a == b)) S := by
  rw [cmp_eq (eqD_dt Dt.bl Dt.bl S)]
  cases a <;> cases b <;> rfl
theorem cmp_ne_bl (a b : Bool) (S : Sto) : cmpD .ne (.bl a) (.bl b) S = .ok (.bl (!(a == b))) S := by
  rw [cmp_ne (eqD_dt Dt.bl Dt.bl S)]
  cases a <;> cases b <;> rfl
theorem flat_one (l : List Nat) : joined [] (l.map fun c => [c]) = l := by
  rw [joined_nil]
  induction l with
  | nil => rfl
  | cons a l ih => simp [ih]
def ofSigs (w : List Nat) : List Nat := sigs.filter fun c => decide (c ∈ w)
theorem ofSigs_len (w : List Nat) : (ofSigs w).length ≤ 8 := List.length_filter_le _ _
theorem join_sigs (w : List Nat) (S : Sto) : mthD .join (.str []) [.lst ((ofSigs w).map fun c => .str [c])] S = .ok (.str (ofSigs w)) S := by
  have hs : (((ofSigs w).map fun c => [c]).map List.length).sum ≤ 8 := by
    have : ∀ l : List Nat, ((l.map fun c => [c]).map List.length).sum = l.length := fun l => by
      induction l with
      | nil => rfl
      | cons a l ih => simp only [List.map_cons, List.sum_cons, ih, List.length_cons, List.length_nil]; omega
    rw [this]
    exact ofSigs_len w
  simp only [mthD, seqOf, items, texts_map]
  rw [if_pos, flat_one]
  simp only [List.length_nil, Nat.mul_zero, Nat.add_zero]
  show _ ≤ 16777216
  omega
theorem once_sigs (h7 : Φ 7 = some f7_signs_once) {w : List Nat} {N : Nat} {S : Sto} (hN : 1 ≤ N) : callN Φ N 7 [.str w] S = .ok (.str (ofSigs w)) S := by
  obtain ⟨n, rfl, _⟩ := pre_pos (k := 0) hN
  have cm : compD (.name 1) (evO (callN Φ n) (.yes (.cmp .isin (.var 1) (.var 0)))) (evE (callN Φ n) (.var 1)) [1] [some (.str w), none] ⟨[], sigs.map fun c => .str [c]⟩ S = .ok (.lst ((ofSigs w).map fun c => .str [c])) S := by
    rw [compD_filter (fun e => match e with | .str [c] => decide (c ∈ w) | _ => false) id fun e he => ?_]
    · rw [List.map_id, List.filter_map]; rfl
    · obtain ⟨c, _, rfl⟩ := List.mem_map.mp he
      exact step_yes rfl (by simp [wipe, cmp_in (inD_sign _ _ _)]) (fun _ => by simp [wipe])
  have hv : valD (.str [97, 98, 99, 100, 101, 102, 103, 104]) S = .ok ⟨[], sigs.map fun c => .str [c]⟩ S := val_str _ (by decide) S
  refine call_ret h7 ⟨rfl, by decide⟩ ?_
  have st : start f7_signs_once [.str w] = [some (.str w), none] := rfl
  rw [st]
  simp only [f7_signs_once, evSs_cons, evS_ret, ev_mth, ev_cst, Out.ok_bind, mthX, recv, if_true, evs_cons, evs_nil, ev_comp, evi_val, ev_glo0, hv, cm, join_sigs, Out.so_ok, thenS_ret]
structure Phi26 (Φ : Nat → Option Def) : Prop where
  p2 : Phi2 Φ
  p3 : Phi3 Φ
  p6 : Phi6 Φ
  pm : PhiM Φ
  h4 : Φ 4 = some f4_is_pattern
  h25 : Φ 25 = some f25_L_signs
  h26 : Φ 26 = some f26_L_good
theorem is_pattern_val (P : Phi26 Φ) {m : Nat} {d : D} (h : Sm m d) {N : Nat} {S : Sto} (hN : m + 3 ≤ N) : callN Φ N 4 [d] S = .ok (.bl (isP d)) S := by
  obtain ⟨n, rfl⟩ : ∃ n, N = n + m + 2 + 1 := ⟨N - m - 3, by omega⟩
  have r := right_pattern P.p2 m d h.dt h.dep (Nat.le_trans h.wt (by decide)) n S
  exact call_ret P.h4 ⟨rfl, by decide⟩ (by simp [f4_is_pattern, start, r])
theorem good_ok (P : Phi26 Φ) {m : Nat} {d : D} (h : Sm m d) (hm : m ≤ 20) {N : Nat} {S : Sto} (hN : m + 7 ≤ N) : callN Φ N 26 [d] S = .ok (.bl true) S := by
  obtain ⟨K, rfl, hK⟩ := pre_pos (k := m + 6) hN
  have v4 := is_pattern_val P h (N := K) (S := S) (by omega)
  have v22 : callN Φ K 22 [d] S = .ok (.bl (isP d)) S := by
    obtain ⟨n, rfl⟩ : ∃ n, K = n + m + 2 := ⟨K - m - 2, by omega⟩
    exact law_pattern P.p3 m d h.dt h.dep (Nat.le_trans h.wt (by decide)) n S
  have rp := h.repr S
  refine call_ret P.h26 ⟨rfl, by decide⟩ ?_
  cases hp : isP d with
  | false =>
    rw [hp] at v4 v22
    simp [f26_L_good, start, rp, v22, v4, isTy, cmp_ne_bl, cmp_ne (eqD_str' _ _ S)]
  | true =>
    rw [hp] at v4 v22
    obtain ⟨r, rfl, hr⟩ := isP_re m d h.dep hp
    have ht : r.ht ≤ m := by rw [← Re.depth_eq]; exact h.dep
    have v25 := signs_gen P.h25 rfl r (by omega) K S (by omega)
    have v6 : ∀ N, r.ht + 1 ≤ N → callN Φ N 6 [r.d] S = .ok (.str r.sgn) S := fun N hN => signs_val P.p6.h6 (by omega) hN
    have v3 : ∀ N, m + 3 ≤ N → callN Φ N 3 [r.d] S = .ok .non S := fun N hN => by
      obtain ⟨n, rfl⟩ : ∃ n, N = n + m + 3 := ⟨N - m - 3, by omega⟩
      exact look_yes P.p2 P.p6 h hp S
    have v8 : callN Φ K 8 [r.d] S = .ok (.str (ofSigs r.sgn)) S := by
      obtain ⟨L, rfl, hL⟩ := pre_pos (k := m + 5) hK
      exact call_ret P.p6.h8 ⟨rfl, by decide⟩ (by simp [f8_signs_of, start, v3 L (by omega), v6 L (by omega), once_sigs P.p6.h7 (N := L) (S := S) (w := r.sgn) (by omega)])
    have v10 : callN Φ K 10 [r.d] S = .ok (.bl r.nul) S := by
      obtain ⟨L, rfl, hL⟩ := pre_pos (k := m + 5) hK
      exact call_ret P.p6.h10 ⟨rfl, by decide⟩ (by simp [f10_has_empty, start, v3 L (by omega), empties_val P.p6.h9 r L S (by omega)])
    have v20 : callN Φ K 20 [r.d, .str []] S = .ok (.bl r.nul) S := by
      classical
      rw [tells_val P.pm (w := []) (by simp) r (by omega)]
      have e : decide (M r []) = r.nul := by
        cases q : r.nul with
        | true => exact decide_eq_true ((nul_M r).mp q)
        | false => exact decide_eq_false fun z => by rw [(nul_M r).mpr z] at q; cases q
      rw [e]
    have hv : valD (.str [97, 98, 99, 100, 101, 102, 103, 104]) S = .ok ⟨[], sigs.map fun c => .str [c]⟩ S := val_str _ (by decide) S
    have cm : ∀ a b c e, compD (.name 6) (evO (callN Φ K) (.yes (.cmp .isin (.var 6) (.var 4)))) (evE (callN Φ K) (.var 6)) [6] [a, b, c, e, some (.str r.sgn), none, none] ⟨[], sigs.map fun c => .str [c]⟩ S = .ok (.lst ((ofSigs r.sgn).map fun c => .str [c])) S := fun a b c' e' => by
      rw [compD_filter (fun e => match e with | .str [c] => decide (c ∈ r.sgn) | _ => false) id fun e he => ?_]
      · rw [List.map_id, List.filter_map]; rfl
      · obtain ⟨c, _, rfl⟩ := List.mem_map.mp he
        exact step_yes rfl (by simp [wipe, cmp_in (inD_sign _ _ _)]) (fun _ => by simp [wipe])
    have cm2 : ∀ a b c e, compD (.name 6) (evO (callN Φ K) (.yes (.cmp .isin (.var 6) (.var 4)))) (evE (callN Φ K) (.var 6)) [6] [a, b, c, e, some (.str r.sgn), none, none] ⟨[], [.str [97], .str [98], .str [99], .str [100], .str [101], .str [102], .str [103], .str [104]]⟩ S = .ok (.lst ((ofSigs r.sgn).map fun c => .str [c])) S := cm
    have hv2 : valD (.str [97, 98, 99, 100, 101, 102, 103, 104]) S = .ok ⟨[], [.str [97], .str [98], .str [99], .str [100], .str [101], .str [102], .str [103], .str [104]]⟩ S := hv
    have st : start f26_L_good [r.d] = [some r.d, none, none, none, none, none, none] := rfl
    rw [st]
    have e1 : ∀ b : Bool, isTy S .bool (.bl b) = some true := fun _ => rfl
    simp [f26_L_good, rp, v22, v4, e1, cmp_ne_bl, cmp_eq_bl, cmp_ne (eqD_str' _ _ S), cmp_eq (eqD_str' _ _ S), v25, v8, hv2, cm2, mthX, recv, join_sigs, v10, v20]
end SL
set_option Elab.async false
set_option linter.all false
set_option maxRecDepth 100000
set_option maxHeartbeats 2000000
/-! D6: bent patterns. -/
namespace SL
open PySem
variable {Φ : Nat → Option Def}
/-- only the pile is drawn from -/
structure Ef (S S' : Sto) (k : Nat) : Prop where
  len : S'.length = S.length
  out : ∀ i, i ≠ k → S'[i]? = S[i]?
  pile : ∃ p : Int, S'[k]? = some (.lst [.int p])
theorem Ef.trans {S S1 S2 : Sto} {k : Nat} (a : Ef S S1 k) (b : Ef S1 S2 k) : Ef S S2 k := ⟨b.len.trans a.len, fun i h => (b.out i h).trans (a.out i h), b.pile⟩
theorem Ef.refl {S : Sto} {k : Nat} {p : Int} (h : S[k]? = some (.lst [.int p])) : Ef S S k := ⟨rfl, fun _ _ => rfl, p, h⟩
theorem Ef.set {S : Sto} {k : Nat} {p q : Int} (h : S[k]? = some (.lst [.int p])) : Ef S (S.set k (.lst [.int q])) k :=
  ⟨by rw [List.length_set], fun i hi => by rw [List.getElem?_set_ne (Ne.symm hi)], q, List.getElem?_set_self (List.getElem?_eq_some_iff.mp h).1⟩
theorem take_ef (P : PhiD Φ) {N k : Nat} {m : Int} {S0 S : Sto} (e : Ef S0 S k) (h1 : 0 < m) (h2 : m < 1073741824) (hN : 1 ≤ N) : ∃ (t : Int) (S2 : Sto), callN Φ N 13 [.ref k, .int m] S = .ok (.int t) S2 ∧ 0 ≤ t ∧ t < m ∧ Ef S0 S2 k := by
  obtain ⟨n, rfl, _⟩ := pre_pos (k := 0) hN
  obtain ⟨p, hp⟩ := e.pile
  exact ⟨_, _, take_ok P hp h1 h2, Int.emod_nonneg _ (by omega), Int.emod_lt_of_pos _ h1, e.trans (.set hp)⟩
theorem gc_ef {S S' : Sto} {k : Nat} (d : D) (h : Ef S S' k) : gc S d S' = S' := gc_len d h.len
theorem pick_lst {l : List D} {t : Int} (h0 : 0 ≤ t) (h1 : t < l.length) (S : Sto) : ∃ d ∈ l, subD (.lst l) (.int t) S = .ok d S := by
  have hl : t.toNat < l.length := by omega
  refine ⟨l[t.toNat], List.getElem_mem hl, ?_⟩
  have e : placeOf t l.length = some t.toNat := by
    unfold placeOf
    rw [if_pos h0, if_pos h1]
  simp only [subD, seqOf, items, e, List.getElem?_eq_getElem hl]
structure Phi24 (Φ : Nat → Option Def) : Prop where
  d : PhiD Φ
  h23 : Φ 23 = some f23_L_bad_patterns
  h24 : Φ 24 = some f24_L_bent
abbrev odds (ds : List D) : List D := ((((od0 ds ++ od1 ds) ++ od2 ds) ++ od3 ds) ++ od4 ds) ++ od5 ds
theorem odds_len (ds : List D) : (odds ds).length = 41 := rfl
theorem in_three {s : List Nat} (hs : Dt (.str s)) (S : Sto) : cmpD .isin (.str s) (.lst [.str sOr, .str sThen, .str sStar]) S = .ok (.bl (decide (s = sOr) || (decide (s = sThen) || decide (s = sStar)))) S := by
  rw [cmp_in (inD_lst hs (fun d hd => by
    simp only [List.mem_cons, List.not_mem_nil, or_false] at hd
    rcases hd with rfl | rfl | rfl <;> exact dts rfl) S)]
  simp only [toPs, toP, List.any_cons, List.any_nil, PyData.eqv, str_beq, Bool.or_false]
  simp [eq_comm]
/-- behind the draw: one of the odd things -/
theorem bent_odd (P : Phi24 Φ) {N k : Nat} {x : D} {S0 S : Sto} {o : Option D} (hx : Pt 4 x) (e : Ef S0 S k) (hN : 1 ≤ N) : ∃ d S', evSs (callN Φ N) (.cons (.asg (.name 2) (.call 23 (.cons (.var 1) .nil))) (.cons (.ret (.sub (.var 2) (.call 13 (.cons (.var 0) (.cons (.blt .len (.cons (.var 2) .nil)) .nil))))) .nil)) [some (.ref k), some x, none, o] S = .ret d S' ∧ Ef S0 S' k ∧ Sq 8 5000 d := by
  obtain ⟨ds, rfl, hl, hq, hs⟩ := hx.sq
  obtain ⟨n, rfl, _⟩ := pre_pos (k := 0) hN
  have b := bad_ok P.h23 (n := n) hl S
  obtain ⟨t, S2, ht, h0, h1, e2⟩ := take_ef P.d (N := n + 1) (m := 41) e (by decide) (by decide) (by omega)
  obtain ⟨d, hd, hsub⟩ := pick_lst (l := odds ds) h0 (by rw [odds_len]; exact h1) S2
  refine ⟨d, S2, ?_, e2, bad_sq hq hs d hd⟩
  have hlen : bltD .len [.lst (odds ds)] S = .ok (.int 41) S := by
    show Out.ok (D.int ((odds ds).length : Nat)) S = _
    rw [odds_len]; rfl
  simp only [evSs_cons, evS_asg, ev_call, evs_cons, ev_var, getS_succ, getS_zero, Out.ok_bind, evs_nil, b, Out.so_ok, asg_name, setAt_succ, setAt_zero, thenS_nx, evS_ret, ev_sub, ev_blt, hlen, ht, hsub, thenS_ret]
theorem add_tup {x y : List D} (h : x.length + y.length ≤ 100) (S : Sto) : binD .add (.tup x) (.tup y) S = .ok (.tup (x ++ y)) S := by
  simp only [binD]
  rw [if_pos]
  show _ ≤ 16777216
  omega
theorem slc_tup (ds : List D) (l h : Option Int) (S : Sto) : slcD (.tup ds) l h S = .ok (.tup (cut ds l h)) S := rfl
theorem sub_tup {ds : List D} {t : Int} {k : Nat} {d : D} (h1 : placeOf t ds.length = some k) (h2 : ds[k]? = some d) (S : Sto) : subD (.tup ds) (.int t) S = .ok d S := by
  simp only [subD, seqOf, h1, h2]
theorem Pt.star_part {x : D} (h : Pt 4 (.tup [.str sStar, x])) (hp : isP x = true) : Pt 4 x := by
  have := h.dep
  have w := h.wt
  have f := h.fl
  have l := h.lay
  have s1 := h.sh
  have s2 := h.si
  simp only [toP, toPs, PyData.depth, PyData.depthAll] at this
  simp [toP, toPs, PyData.weight, PyData.weightAll] at w
  simp [flat, flats] at f
  simp [toP, toPs, PyData.canLay0, PyData.canLayAll0] at l
  simp [toP, toPs, PyData.showable, PyData.showableAll] at s1
  simp [toP, toPs, PyData.intsShort, PyData.intsShortAll] at s2
  exact ⟨hp, f, l.2, by omega, by omega, s1, s2⟩
theorem Pt.two_parts {s : List Nat} {x y : D} (h : Pt 4 (.tup [.str s, x, y])) (hp : isP x = true) (hq : isP y = true) : Pt 4 x ∧ Pt 4 y := by
  have := h.dep
  have w := h.wt
  have f := h.fl
  have l := h.lay
  have s1 := h.sh
  have s2 := h.si
  simp only [toP, toPs, PyData.depth, PyData.depthAll] at this
  simp [toP, toPs, PyData.weight, PyData.weightAll] at w
  simp [flat, flats] at f
  simp [toP, toPs, PyData.canLay0, PyData.canLayAll0] at l
  simp [toP, toPs, PyData.showable, PyData.showableAll] at s1
  simp [toP, toPs, PyData.intsShort, PyData.intsShortAll] at s2
  exact ⟨⟨hp, f.1, l.2.1, by omega, by omega, s1.1, s2.1⟩, ⟨hq, f.2, l.2.2, by omega, by omega, s1.2, s2.2⟩⟩
theorem Re.isP : ∀ r : Re, r.ok → SL.isP r.d = true
  | .none, _ => by decide
  | .empty, _ => by decide
  | .sign c, h => by
    have : c ∈ sigs := h
    have t2 : decide (c ∈ sigs) = true := decide_eq_true this
    simp only [Re.d, SL.isP, isPt, isW, one, List.all_cons, List.all_nil, t2]
    rfl
  | .or a b, h => by simp [Re.d, SL.isP, isPt, Re.isP a h.1, Re.isP b h.2]
  | .thn a b, h => by simp [Re.d, SL.isP, isPt, Re.isP a h.1, Re.isP b h.2]
  | .star a, h => by simp [Re.d, SL.isP, isPt, Re.isP a h]
def bentTail : Ss := .cons (.asg (.name 2) (.call 23 (.cons (.var 1) .nil))) (.cons (.ret (.sub (.var 2) (.call 13 (.cons (.var 0) (.cons (.blt .len (.cons (.var 2) .nil)) .nil))))) .nil)
def bentHead : Ss := .cons (.asg (.name 3) (.bin .add (.cst (.int 1)) (.call 13 (.cons (.var 0) (.cons (.bin .sub (.blt .len (.cons (.var 1) .nil)) (.cst (.int 1))) .nil))))) (.cons (.ret (.bin .add (.bin .add (.slc (.var 1) .no (.yes (.var 3))) (.tup (.cons (.call 24 (.cons (.var 0) (.cons (.sub (.var 1) (.var 3)) .nil))) .nil))) (.slc (.var 1) (.yes (.bin .add (.var 3) (.cst (.int 1)))) .no))) .nil)
def bentTest : E := .and (.cmp .isin (.sub (.var 1) (.cst (.int 0))) (.lst (.cons (.cst (.str sOr)) (.cons (.cst (.str sThen)) (.cons (.cst (.str sStar)) .nil))))) (.cmp .gt (.call 13 (.cons (.var 0) (.cons (.cst (.int 3)) .nil))) (.cst (.int 0)))
theorem bent_body : f24_L_bent.body = .cons (.ifs bentTest bentHead .nil) bentTail := rfl
theorem bent_leaf (P : Phi24 Φ) {k : Nat} {s : List Nat} {rest : List D} (hs : Dt (.str s)) (hn : (decide (s = sOr) || (decide (s = sThen) || decide (s = sStar))) = false) (hx : Pt 4 (.tup (.str s :: rest))) {N : Nat} {S0 S : Sto} (hN : 2 ≤ N) (e : Ef S0 S k) : ∃ d S', callN Φ N 24 [.ref k, .tup (.str s :: rest)] S = .ok d S' ∧ Ef S0 S' k ∧ Sq 8 5000 d := by
  obtain ⟨M, rfl, hM⟩ := pre_pos (k := 1) hN
  obtain ⟨d, S', go, e', q⟩ := bent_odd P (o := none) hx e hM
  have go : evSs (callN Φ M) bentTail [some (.ref k), some (.tup (.str s :: rest)), none, none] S = .ret d S' := go
  refine ⟨d, S', ?_, e', q⟩
  rw [call_ret' P.h24 ⟨rfl, by decide⟩ (S' := S') (r := d), ]
  · obtain ⟨p, hp⟩ := e.pile
    have : Ef S S' k := ⟨e'.len.trans e.len.symm, fun i hi => (e'.out i hi).trans (e.out i hi).symm, e'.pile⟩
    rw [gc_ef d this]
  · have st : start f24_L_bent [.ref k, .tup (.str s :: rest)] = [some (.ref k), some (.tup (.str s :: rest)), none, none] := rfl
    rw [st, bent_body]
    simp [bentTest, sub0, in_three hs, hn, go]
theorem bent_node (P : Phi24 Φ) {k : Nat} {s : List Nat} {rest : List D} (hs : Dt (.str s)) (hn : (decide (s = sOr) || (decide (s = sThen) || decide (s = sStar))) = true) (hx : Pt 4 (.tup (.str s :: rest))) {N w : Nat} {S0 S : Sto} (hN : 2 ≤ N) (e : Ef S0 S k)
    (hw : 5000 ≤ w) {a : Nat} (ha : 8 ≤ a) (inner : ∀ S1, Ef S0 S1 k → ∃ d S', evSs (callN Φ (N - 1)) bentHead [some (.ref k), some (.tup (.str s :: rest)), none, none] S1 = .ret d S' ∧ Ef S0 S' k ∧ Sq a w d) : ∃ d S', callN Φ N 24 [.ref k, .tup (.str s :: rest)] S = .ok d S' ∧ Ef S0 S' k ∧ Sq a w d := by
  obtain ⟨M, rfl, hM⟩ := pre_pos (k := 1) hN
  obtain ⟨t, S1, ht, h0, h1, e1⟩ := take_ef P.d (N := M) (m := 3) e (by decide) (by decide) hM
  have fin : ∀ d S', Ef S0 S' k → evSs (callN Φ M) f24_L_bent.body (start f24_L_bent [.ref k, .tup (.str s :: rest)]) S = .ret d S' → callN Φ (M + 1) 24 [.ref k, .tup (.str s :: rest)] S = .ok d S' := fun d S' e' go => by
    rw [call_ret' P.h24 ⟨rfl, by decide⟩ go]
    have : Ef S S' k := ⟨e'.len.trans e.len.symm, fun i hi => (e'.out i hi).trans (e.out i hi).symm, e'.pile⟩
    rw [gc_ef d this]
  have st : start f24_L_bent [.ref k, .tup (.str s :: rest)] = [some (.ref k), some (.tup (.str s :: rest)), none, none] := rfl
  by_cases h : 0 < t
  · obtain ⟨d, S', go, e', q⟩ := inner S1 e1
    refine ⟨d, S', fin d S' e' ?_, e', q⟩
    have go : evSs (callN Φ M) bentHead [some (.ref k), some (.tup (.str s :: rest)), none, none] S1 = .ret d S' := go
    rw [st, bent_body]
    simp [bentTest, sub0, in_three hs, hn, ht, h, go]
  · obtain ⟨d, S', go, e', q⟩ := bent_odd P (o := none) hx e1 hM
    have go : evSs (callN Φ M) bentTail [some (.ref k), some (.tup (.str s :: rest)), none, none] S1 = .ret d S' := go
    refine ⟨d, S', fin d S' e' ?_, e', (q.up ha).wd hw⟩
    rw [st, bent_body]
    simp [bentTest, sub0, in_three hs, hn, ht, h, go]
theorem bent_ok (P : Phi24 Φ) {k : Nat} : ∀ (r : Re), r.ok → Pt 4 r.d → ∀ (N : Nat) (S0 S : Sto), r.ht + 2 ≤ N → Ef S0 S k → ∃ d S', callN Φ N 24 [.ref k, r.d] S = .ok d S' ∧ Ef S0 S' k ∧ Sq (8 + r.ht) (5000 + 1000 * r.ht) d := by
  intro r
  induction r with
  | none =>
    intro _ hx N S0 S hN e
    obtain ⟨d, S', h1, h2, h3⟩ := bent_leaf P (N := N) (s := sNone) (rest := []) (dts rfl) rfl hx (by simp only [Re.ht] at hN; omega) e
    exact ⟨d, S', h1, h2, (h3.up (by omega)).wd (by omega)⟩
  | empty =>
    intro _ hx N S0 S hN e
    obtain ⟨d, S', h1, h2, h3⟩ := bent_leaf P (N := N) (s := sEmpty) (rest := []) (dts rfl) rfl hx (by simp only [Re.ht] at hN; omega) e
    exact ⟨d, S', h1, h2, (h3.up (by omega)).wd (by omega)⟩
  | sign c =>
    intro _ hx N S0 S hN e
    obtain ⟨d, S', h1, h2, h3⟩ := bent_leaf P (N := N) (s := sSign) (rest := [.str [c]]) (dts rfl) rfl hx (by simp only [Re.ht] at hN; omega) e
    exact ⟨d, S', h1, h2, (h3.up (by omega)).wd (by omega)⟩
  | star a ih =>
    intro ho hx N S0 S hN e
    simp only [Re.ht] at hN ⊢
    have hp := Re.isP a ho
    have xa := hx.star_part hp
    refine bent_node P (s := sStar) (rest := [a.d]) (dts rfl) rfl hx (by omega) e (by omega) (by omega) fun S1 e1 => ?_
    obtain ⟨t, S2, ht, h0, h1, e2⟩ := take_ef P.d (N := N - 1) (m := 1) e1 (by decide) (by decide) (by omega)
    have t0 : t = 0 := by omega
    subst t0
    obtain ⟨d, S3, hc, e3, q⟩ := ih ho xa (N - 1) S0 S2 (by omega) e2
    refine ⟨.tup [.str sStar, d], S3, ?_, e3, ?_⟩
    · have ad := fun (x y : List D) (h : x.length + y.length ≤ 100) => add_tup h S3
      have len2 : bltD .len [.tup [.str sStar, a.d]] S1 = .ok (.int 2) S1 := rfl
      have sub : binD .sub (.int 2) (.int 1) S1 = .ok (.int 1) S1 := rfl
      simp [bentHead, len2, sub, ht, binD, slc_tup, cut, cutAt, sub1, hc]
    · exact ((sq_tup (sql_cons ((sq_str (s := sStar) rfl)) (sql_cons q sql_nil))).up (by omega)).wd (by simp; omega)
  | or a b iha ihb =>
    intro ho hx N S0 S hN e
    simp only [Re.ht] at hN ⊢
    have hpa := Re.isP a ho.1
    have hpb := Re.isP b ho.2
    obtain ⟨xa, xb⟩ := hx.two_parts hpa hpb
    obtain ⟨_, _, _, qa, _⟩ := xa.sq
    obtain ⟨_, _, _, qb, _⟩ := xb.sq
    refine bent_node P (s := sOr) (rest := [a.d, b.d]) (dts rfl) rfl hx (by omega) e (by omega) (by omega) fun S1 e1 => ?_
    obtain ⟨t, S2, ht, h0, h1, e2⟩ := take_ef P.d (N := N - 1) (m := 2) e1 (by decide) (by decide) (by omega)
    have len2 : bltD .len [.tup [.str sOr, a.d, b.d]] S1 = .ok (.int 3) S1 := rfl
    have sub : binD .sub (.int 3) (.int 1) S1 = .ok (.int 2) S1 := rfl
    have t01 : t = 0 ∨ t = 1 := by omega
    rcases t01 with rfl | rfl
    · obtain ⟨d, S3, hc, e3, q⟩ := iha ho.1 xa (N - 1) S0 S2 (by omega) e2
      refine ⟨.tup [.str sOr, d, b.d], S3, ?_, e3, ?_⟩
      · simp [bentHead, len2, sub, ht, binD, slc_tup, cut, cutAt, sub1, hc]
      · exact ((sq_tup (sql_cons ((sq_str (s := sOr) rfl)) (sql_cons (q.up (b := 8 + max a.ht b.ht) (by omega)) (sql_cons (qb.up (by omega)) sql_nil)))).up (by omega)).wd (by simp; omega)
    · obtain ⟨d, S3, hc, e3, q⟩ := ihb ho.2 xb (N - 1) S0 S2 (by omega) e2
      refine ⟨.tup [.str sOr, a.d, d], S3, ?_, e3, ?_⟩
      · simp [bentHead, len2, sub, ht, binD, slc_tup, cut, cutAt, sub2, hc]
      · exact ((sq_tup (sql_cons ((sq_str (s := sOr) rfl)) (sql_cons (qa.up (b := 8 + max a.ht b.ht) (by omega)) (sql_cons (q.up (by omega)) sql_nil)))).up (by omega)).wd (by simp; omega)
  | thn a b iha ihb =>
    intro ho hx N S0 S hN e
    simp only [Re.ht] at hN ⊢
    have hpa := Re.isP a ho.1
    have hpb := Re.isP b ho.2
    obtain ⟨xa, xb⟩ := hx.two_parts hpa hpb
    obtain ⟨_, _, _, qa, _⟩ := xa.sq
    obtain ⟨_, _, _, qb, _⟩ := xb.sq
    refine bent_node P (s := sThen) (rest := [a.d, b.d]) (dts rfl) rfl hx (by omega) e (by omega) (by omega) fun S1 e1 => ?_
    obtain ⟨t, S2, ht, h0, h1, e2⟩ := take_ef P.d (N := N - 1) (m := 2) e1 (by decide) (by decide) (by omega)
    have len2 : bltD .len [.tup [.str sThen, a.d, b.d]] S1 = .ok (.int 3) S1 := rfl
    have sub : binD .sub (.int 3) (.int 1) S1 = .ok (.int 2) S1 := rfl
    have t01 : t = 0 ∨ t = 1 := by omega
    rcases t01 with rfl | rfl
    · obtain ⟨d, S3, hc, e3, q⟩ := iha ho.1 xa (N - 1) S0 S2 (by omega) e2
      refine ⟨.tup [.str sThen, d, b.d], S3, ?_, e3, ?_⟩
      · simp [bentHead, len2, sub, ht, binD, slc_tup, cut, cutAt, sub1, hc]
      · exact ((sq_tup (sql_cons ((sq_str (s := sThen) rfl)) (sql_cons (q.up (b := 8 + max a.ht b.ht) (by omega)) (sql_cons (qb.up (by omega)) sql_nil)))).up (by omega)).wd (by simp; omega)
    · obtain ⟨d, S3, hc, e3, q⟩ := ihb ho.2 xb (N - 1) S0 S2 (by omega) e2
      refine ⟨.tup [.str sThen, a.d, d], S3, ?_, e3, ?_⟩
      · simp [bentHead, len2, sub, ht, binD, slc_tup, cut, cutAt, sub2, hc]
      · exact ((sq_tup (sql_cons ((sq_str (s := sThen) rfl)) (sql_cons (qa.up (b := 8 + max a.ht b.ht) (by omega)) (sql_cons (q.up (by omega)) sql_nil)))).up (by omega)).wd (by simp; omega)
end SL
set_option Elab.async false
set_option linter.all false
set_option maxRecDepth 100000
set_option maxHeartbeats 2000000
/-! D7: law k01. -/
namespace SL
open PySem
variable {Φ : Nat → Option Def}
theorem forL_inv3 {bd : D → FS → Sto → SO} {I : FS → Sto → Prop} : ∀ {xs : List D} {f : FS} {S : Sto}, (∀ d ∈ xs, ∀ f S, I f S → ∃ f' S', bd d f S = .nx f' S' ∧ I f' S') → I f S → ∃ f' S', forL [] bd xs f S = .nx f' S' ∧ I f' S'
  | [], f, S, _, hi => ⟨f, S, by unfold forL; rw [if_pos (chk_nil S)], hi⟩
  | d :: ds, f, S, h, hi => by
    obtain ⟨f1, S1, e1, i1⟩ := h d List.mem_cons_self f S hi
    obtain ⟨f2, S2, e2, i2⟩ := forL_inv3 (xs := ds) (fun x hx => h x (List.mem_cons_of_mem _ hx)) i1
    refine ⟨f2, S2, ?_, i2⟩
    unfold forL
    rw [if_pos (chk_nil S), e1]
    exact e2
/-- a drawn pattern; the pile stays one -/
theorem drawn_gen (P : PhiD Φ) (h17 : Φ 17 = some f17_L_drawn) {N k most : Nat} {p : Int} {L : List Nat} {S : Sto} (h : S[k]? = some (.lst [.int p])) (hL : Let L) (hm : most ≤ 1000) (hN : 8 ≤ N) : ∃ x S', callN Φ N 17 [.ref k, .str L, .int most] S = .ok x S' ∧ Pt 4 x ∧ ∃ q : Int, S'[k]? = some (.lst [.int q]) := by
  obtain ⟨n, rfl⟩ : ∃ n, N = n + 8 := ⟨N - 8, by omega⟩
  rw [call_of h17 (n + 7) _ S ⟨rfl, by decide⟩]
  have lk : k < S.length := (List.getElem?_eq_some_iff.mp h).1
  have hkj : k ≠ S.length := by omega
  obtain ⟨S1, hS1⟩ : ∃ S1, S1 = S ++ [Ob.lst [.int most, .int (3 * (most : Int) + 2)]] := ⟨_, rfl⟩
  have k1 : S1[k]? = some (.lst [.int p]) := by rw [hS1, List.getElem?_append_left lk]; exact h
  have j1 : S1[S.length]? = some (.lst [.int most, .int (3 * (most : Int) + 2)]) := by rw [hS1]; simp
  have e0 : Eff S1 S1 k S.length := ⟨rfl, fun _ _ _ => rfl, ⟨p, k1⟩, ⟨_, _, j1⟩⟩
  obtain ⟨t, S2, t2, q0, q4, e2⟩ := take_eff P (n := n + 6) (m := 4) hkj e0 (by decide) (by decide)
  obtain ⟨d, hd⟩ : ∃ d : Nat, (d : Int) = 1 + t ∧ d ≤ 4 := ⟨(1 + t).toNat, by omega, by omega⟩
  obtain ⟨x, S3, c3, e3, p3⟩ := pattern_ok P hkj hL d (n + (4 - d)) S1 S2 e2
  have ef : n + (4 - d) + d + 3 = n + 7 := by omega
  rw [ef, hd.1] at c3
  have go : evSs (callN Φ (n + 7)) f17_L_drawn.body [some (.ref k), some (.str L), some (.int most)] S = .ret x S3 := by
    have s3 : small 3 = true := small_of (by omega) (by omega)
    have ad : ∀ T, binD .add (.int (3 * (most : Int))) (.int 2) T = .ok (.int (3 * (most : Int) + 2)) T := fun _ => rfl
    simp [f17_L_drawn, bin_mul (.inl s3), ad, newD, ← hS1, t2, c3]
  refine ⟨x, gc S x S3, ?_, p3.mono hd.2, ?_⟩
  · show endD S (evSs (callN Φ (n + 7)) f17_L_drawn.body [some (.ref k), some (.str L), some (.int most)] S) = _
    rw [go]
    rfl
  · unfold gc
    split
    · exact ⟨p, h⟩
    · exact e3.pile
theorem letters_gen (P : PhiD Φ) {N k : Nat} {p : Int} {S : Sto} (h : S[k]? = some (.lst [.int p])) (hN : 2 ≤ N) : ∃ L S', callN Φ N 14 [.ref k] S = .ok (.str L) S' ∧ Let L ∧ Ef S S' k := by
  obtain ⟨n, rfl⟩ : ∃ n, N = n + 2 := ⟨N - 2, by omega⟩
  obtain ⟨L, c, hL⟩ := letters_ok P (n := n) h
  exact ⟨L, _, c, hL, Ef.set h⟩
structure Phi01 (Φ : Nat → Option Def) : Prop where
  g : Phi26 Φ
  b : Phi24 Φ
  h5 : Φ 5 = some f5_is_word
  h17 : Φ 17 = some f17_L_drawn
  h0 : Φ 0 = some f0_k01
def bodyBent : Ss := .cons (.ifs (.not (.call 26 (.cons (.call 24 (.cons (.var 4) (.cons (.var 5) .nil))) .nil))) (.cons (.ret (.cst (.bl false))) .nil) .nil) .nil
def bodyK1 : Ss := .cons (.asg (.name 4) (.call 12 (.cons (.var 0) (.cons (.var 1) .nil)))) (.cons (.asg (.name 5) (.call 17 (.cons (.var 4) (.cons (.call 14 (.cons (.var 4) .nil)) (.cons (.cst (.int 8)) .nil))))) (.cons (.ifs (.or (.not (.call 26 (.cons (.var 5) .nil))) (.notB true (.call 4 (.cons (.var 5) .nil)))) (.cons (.ret (.cst (.bl false))) .nil) .nil) (.cons (.fors (.name 6) (.range1 (.cst (.int 5))) bodyBent) (.cons (.ifs (.cmp .ne (.comp (.var 3) (.name 3) (.val (.call 23 (.cons (.var 5) .nil))) (.yes (.not (.call 26 (.cons (.var 3) .nil)))) [3]) (.lst .nil)) (.cons (.ret (.cst (.bl false))) .nil) .nil) .nil))))
def bodyThing : Ss := .cons (.asg (.name 7) (.call 5 (.cons (.var 3) .nil))) (.cons (.ifs (.or (.not (.isi (.var 7) [.bool])) (.cmp .ne (.var 7) (.call 21 (.cons (.var 3) .nil)))) (.cons (.ret (.cst (.bl false))) .nil) .nil) .nil)
def bodyWide : Ss := .cons (.asg (.name 8) (.tup (.cons (.cst (.str sOr)) (.cons (.var 8) (.cons (.tup (.cons (.cst (.str sThen)) (.cons (.var 8) (.cons (.var 8) .nil)))) .nil))))) (.cons (.asg (.name 9) (.tup (.cons (.cst (.str sStar)) (.cons (.tup (.cons (.cst (.str sOr)) (.cons (.tup (.cons (.cst (.str sStar)) (.cons (.var 9) .nil))) (.cons (.tup (.cons (.cst (.str sEmpty)) .nil)) .nil)))) .nil)))) .nil)
theorem Pt.sm {x : D} (h : Pt 4 x) : Sm 8 x := by
  obtain ⟨ds, rfl, hl, hx, hs⟩ := h.sq
  exact (hx.up (by decide : 5 ≤ 8)).sm (by decide)
theorem Sq.sm' {a w : Nat} {d : D} (h : Sq a w d) (ha : a ≤ 64) (hw : w ≤ 1000000) : Sm a d := ⟨⟨h.fl, h.lay, Nat.le_trans h.dep ha⟩, h.dep, Nat.le_trans h.wt hw, h.sh, h.si⟩
theorem bent_turn (P : Phi01 Φ) {N k : Nat} {x : D} {a b c e g i j l : Option D} {S0 S : Sto} {t : Int} (hx : Pt 4 x) (h : Ef S0 S k) (hN : 30 ≤ N) : ∃ S', forB (.name 6) (evSs (callN Φ N) bodyBent) (.int t) [a, b, c, e, some (.ref k), some x, g, i, j, l] S = .nx [a, b, c, e, some (.ref k), some x, some (.int t), i, j, l] S' ∧ Ef S0 S' k := by
  obtain ⟨r, rfl, hr⟩ := isP_re 64 x (by have := hx.dep; omega) hx.p
  have ht : r.ht ≤ 5 := by rw [← Re.depth_eq]; exact hx.dep
  obtain ⟨d, S', hc, e', q⟩ := bent_ok P.b r hr hx N S0 S (by omega) h
  have sm := q.sm' (by omega) (by omega)
  have g := good_ok P.g sm (by omega) (N := N) (S := S') (by omega)
  exact ⟨S', by simp [forB, bodyBent, hc, g], e'⟩
theorem k1_turn (P : Phi01 Φ) {N : Nat} (hN : 30 ≤ N) {ns : List Int} {k : Nat} {b c d e g i j l m : Option D} {S : Sto} : ∃ e' g' i' S', forB (.name 1) (evSs (callN Φ N) bodyK1) (.int k) [some (.scr ns), b, c, d, e, g, i, j, l, m] S = .nx [some (.scr ns), some (.int k), c, d, e', g', i', j, l, m] S' := by
  obtain ⟨n2, hn2⟩ : ∃ n, N = n + 2 := ⟨N - 2, by omega⟩
  obtain ⟨p, c1⟩ := pile_ok P.b.d (n := n2) (ns := ns) (k := k) (S := S)
  rw [← hn2] at c1
  have hp : (S ++ [Ob.lst [.int p]])[S.length]? = some (.lst [.int p]) := by simp
  obtain ⟨L, S2, c2, hL, e2⟩ := letters_gen P.b.d (N := N) hp (by omega)
  obtain ⟨p2, hp2⟩ := e2.pile
  obtain ⟨x, S3, c3, hx, p3, hp3⟩ := drawn_gen P.b.d P.h17 (N := N) (most := 8) hp2 hL (by decide) (by omega)
  have c3 : callN Φ N 17 [.ref S.length, .str L, .int 8] S2 = .ok x S3 := c3
  have gx := good_ok P.g hx.sm (by decide) (N := N) (S := S3) (by omega)
  have ix := is_pattern_val P.g hx.sm (N := N) (S := S3) (by omega)
  rw [hx.p] at ix
  obtain ⟨f', S4, e1, h4⟩ := forL_inv3 (bd := forB (.name 6) (evSs (callN Φ N) bodyBent)) (I := fun f T => (∃ o, f = [some (.scr ns), some (.int k), c, d, some (.ref S.length), some x, o, j, l, m]) ∧ Ef S3 T S.length) (S := S3) (xs := upFrom 0 5) (f := [some (.scr ns), some (.int k), c, d, some (.ref S.length), some x, i, j, l, m])
    (fun y hy f T hf => by
      obtain ⟨⟨o, rfl⟩, ef⟩ := hf
      obtain ⟨q, hq, rfl⟩ := List.mem_map.mp hy
      obtain ⟨S', h1, h2⟩ := bent_turn P (N := N) (a := some (.scr ns)) (b := some (.int k)) (c := c) (e := d) (g := o) (i := j) (j := l) (l := m) (t := 0 + (q : Int)) hx ef hN
      exact ⟨_, S', h1, ⟨_, rfl⟩, h2⟩) ⟨⟨i, rfl⟩, Ef.refl hp3⟩
  obtain ⟨⟨o, rfl⟩, ef4⟩ := h4
  obtain ⟨ds, rfl, hl, hq, hs⟩ := hx.sq
  obtain ⟨n1, hn1⟩ : ∃ n, N = n + 1 := ⟨N - 1, by omega⟩
  have b4 := bad_ok P.b.h23 (n := n1) hl S4
  rw [← hn1] at b4
  have cm : ∀ f : FS, f.length = 10 → compD (.name 3) (evO (callN Φ N) (.yes (.not (.call 26 (.cons (.var 3) .nil))))) (evE (callN Φ N) (.var 3)) [3] f ⟨[], odds ds⟩ S4 = .ok (.lst []) S4 := fun f hf => by
    match f, hf with
    | [x0, x1, x2, x3, x4, x5, x6, x7, x8, x9], _ =>
      rw [compD_filter (fun _ => false) id fun y hy => ?_]
      · simp
      · have sm := bad_sm hq hs y hy
        have gy := good_ok P.g sm (by decide) (N := N) (S := S4) (by omega)
        exact step_yes (f' := [x0, x1, x2, some y, x4, x5, x6, x7, x8, x9]) rfl (by simp [gy]) (fun h => by cases h)
  have r1 : rng1D (.int 5) S3 = .ok ⟨[], upFrom 0 5⟩ S3 := range_ok (by decide) (by decide) S3
  have ne : cmpD .ne (.lst []) (.lst []) S4 = .ok (.bl false) S4 := ne_ints [] S4
  have nb : ∀ T, notBD true (.bl true) T = .ok (.bl false) T := fun _ => rfl
  refine ⟨some (.ref S.length), some (.tup ds), o, S4, ?_⟩
  have cm' := cm [some (.scr ns), some (.int k), c, d, some (.ref S.length), some (.tup ds), o, j, l, m] rfl
  simp only [forB, bodyK1, bind_name, setAt_succ, setAt_zero, evSs_cons, evS_asg, ev_call, evs_cons, evs_nil, ev_var, getS_succ, getS_zero, Out.ok_bind, c1, Out.so_ok, asg_name, thenS_nx, c2, ev_cst, c3, evS_ifs, ev_or, ev_not, gx, notD_bl, Bool.not_true, orD_false, ev_notB, ix, nb, ifD_false, evSs_nil, evS_fors, evi_r1, r1, e1, ev_cmp, ev_comp, evi_val, b4, val_lst, cm', ev_lst, List.length_nil, Nat.zero_le, if_true, ne]
/-! ### words -/
theorem thing_turn (P : Phi01 Φ) {N : Nat} (hN : 5 ≤ N) {x : D} {a b c e g i j l m o : Option D} {S : Sto} (hd : Dt x) (hz : ∀ w, x = .str w → w.length ≤ sz) : forB (.name 3) (evSs (callN Φ N) bodyThing) x [a, b, c, o, e, g, i, j, l, m] S = .nx [a, b, c, some x, e, g, i, some (.bl (isW x)), l, m] S := by
  obtain ⟨n, rfl⟩ : ∃ n, N = n + 1 + 1 := ⟨N - 2, by omega⟩
  have v1 := right_word P.g.p2 (n := n) hz S hd.fl
  have v5 : callN Φ (n + 1 + 1) 5 [x] S = .ok (.bl (isW x)) S := call_ret P.h5 ⟨rfl, by decide⟩ (by simp [f5_is_word, start, v1])
  have v21 := law_word P.g.p3 (n := n + 1) hd hz S
  have e1 : ∀ b : Bool, isTy S .bool (.bl b) = some true := fun _ => rfl
  simp [forB, bodyThing, v5, v21, e1, cmp_ne_bl]
def things0 : List D := [.str [], .str [97], .str [104], .str [104, 103, 102, 101, 100, 99, 98, 97], .str [105], .str [65], .str [97, 66], .str [97, 32, 98], .str [32], .non, .int 0, .bl true, .lst [.str [97]], .tup [.str [97]], .str [97, 98, 10], .tup [], .lst []]
def things1 : List D := [.str [48], .str (List.replicate 31 [97]).flatten, .str (List.replicate 200 [97, 98, 104]).flatten, .str ((List.replicate 200 [97, 98, 104]).flatten ++ [105])]
theorem things_dt : ∀ d ∈ things0 ++ things1, Dt d ∧ ∀ w, d = .str w → w.length ≤ sz := by
  have s : ∀ x : List Nat, (x.all (fun c => decide (c < 1114112)) && decide (x.length ≤ 1000)) = true → Dt (.str x) ∧ ∀ w, D.str x = .str w → w.length ≤ sz := fun x h => by
    obtain ⟨h1, h2⟩ := and2 h
    refine ⟨dts h1, fun w e => ?_⟩
    cases e
    have := of_decide_eq_true h2
    show _ ≤ 16777216
    omega
  intro d hd
  simp only [things0, things1, List.mem_append, List.mem_cons, List.not_mem_nil, or_false] at hd
  rcases hd with (rfl | rfl | rfl | rfl | rfl | rfl | rfl | rfl | rfl | rfl | rfl | rfl | rfl | rfl | rfl | rfl | rfl) | (rfl | rfl | rfl | rfl)
  all_goals first
    | exact s _ (by decide +kernel)
    | exact ⟨⟨by decide +kernel, by decide +kernel, by decide +kernel⟩, fun w e => by cases e⟩
/-! ### wide and deep ones -/
def wideS (w : D) : D := .tup [.str sOr, w, .tup [.str sThen, w, w]]
def deepS (w : D) : D := .tup [.str sStar, .tup [.str sOr, .tup [.str sStar, w], .tup [.str sEmpty]]]
theorem wide_loop (c : Nat → List D → Sto → Out D) (S : Sto) {a b c' e g i j : Option D} : ∀ (xs : List D) (o : Option D) (w v : D), ∃ o', forL [] (forB (.name 1) (evSs c bodyWide)) xs [a, o, b, c', e, g, i, j, some w, some v] S = .nx [a, o', b, c', e, g, i, j, some (xs.foldl (fun w _ => wideS w) w), some (xs.foldl (fun w _ => deepS w) v)] S
  | [], o, w, v => ⟨o, by unfold forL; rw [if_pos (chk_nil S)]; rfl⟩
  | x :: xs, o, w, v => by
    have st : forB (.name 1) (evSs c bodyWide) x [a, o, b, c', e, g, i, j, some w, some v] S = .nx [a, some x, b, c', e, g, i, j, some (wideS w), some (deepS v)] S := by
      simp [forB, bodyWide, wideS, deepS]
    obtain ⟨o', h⟩ := wide_loop c S xs (some x) (wideS w) (deepS v)
    refine ⟨o', ?_⟩
    unfold forL
    rw [if_pos (chk_nil S), st]
    exact h
def wide5 : D := wideS (wideS (wideS (wideS (wideS (.tup [.str sSign, .str [97]])))))
def deep5 : D := deepS (deepS (deepS (deepS (deepS (.tup [.str sSign, .str [98]])))))
theorem sm_of {d : D} (h : (flat d && ((toP d).canLay0 && (decide ((toP d).depth ≤ 20) && (decide ((toP d).weight ≤ 1000000) && ((toP d).showable && (toP d).intsShort 13))))) = true) : Sm 20 d := by
  obtain ⟨h1, h⟩ := and2 h
  obtain ⟨h2, h⟩ := and2 h
  obtain ⟨h3, h⟩ := and2 h
  obtain ⟨h4, h⟩ := and2 h
  obtain ⟨h5, h6⟩ := and2 h
  exact ⟨⟨h1, h2, Nat.le_trans (of_decide_eq_true h3) (by decide)⟩, of_decide_eq_true h3, of_decide_eq_true h4, h5, h6⟩
theorem body_k01 : f0_k01.body = .cons (.fors (.name 1) (.range1 (.blt .max (.cons (.cst (.int 2)) (.cons (.blt .min (.cons (.blt .len (.cons (.var 0) .nil)) (.cons (.cst (.int 10)) .nil))) .nil)))) bodyK1) (.cons (.asg (.name 2) (.lst (.cons (.cst (.str [])) (.cons (.cst (.str [97])) (.cons (.cst (.str [104])) (.cons (.cst (.str [104, 103, 102, 101, 100, 99, 98, 97])) (.cons (.cst (.str [105])) (.cons (.cst (.str [65])) (.cons (.cst (.str [97, 66])) (.cons (.cst (.str [97, 32, 98])) (.cons (.cst (.str [32])) (.cons (.cst .non) (.cons (.cst (.int 0)) (.cons (.cst (.bl true)) (.cons (.lst (.cons (.cst (.str [97])) .nil)) (.cons (.tup (.cons (.cst (.str [97])) .nil)) (.cons (.cst (.str [97, 98, 10])) (.cons (.tup .nil) (.cons (.lst .nil) .nil))))))))))))))))))) (.cons (.fors (.name 3) (.val (.bin .add (.var 2) (.lst (.cons (.cst (.str [48])) (.cons (.bin .mul (.cst (.str [97])) (.cst (.int 31))) (.cons (.bin .mul (.cst (.str [97, 98, 104])) (.cst (.int 200))) (.cons (.bin .add (.bin .mul (.cst (.str [97, 98, 104])) (.cst (.int 200))) (.cst (.str [105]))) .nil))))))) bodyThing) (.cons (.par [8, 9] (.cons (.tup (.cons (.cst (.str [115, 105, 103, 110])) (.cons (.cst (.str [97])) .nil))) (.cons (.tup (.cons (.cst (.str [115, 105, 103, 110])) (.cons (.cst (.str [98])) .nil))) .nil))) (.cons (.fors (.name 1) (.range1 (.cst (.int 5))) bodyWide) (.cons (.ifs (.or (.notB true (.call 4 (.cons (.var 8) .nil))) (.or (.notB true (.call 4 (.cons (.tup (.cons (.cst (.str [111, 114])) (.cons (.var 9) (.cons (.var 8) .nil)))) .nil))) (.call 4 (.cons (.tup (.cons (.cst (.str [111, 114])) (.cons (.var 9) (.cons (.lst (.cons (.var 8) .nil)) .nil)))) .nil)))) (.cons (.ret (.cst (.bl false))) .nil) .nil) (.cons (.ret (.and (.isB true (.call 4 (.cons (.tup (.cons (.cst (.str [115, 105, 103, 110])) (.cons (.cst (.str [104])) .nil))) .nil))) (.isB false (.call 4 (.cons (.tup (.cons (.cst (.str [115, 105, 103, 110])) (.cons (.cst (.str [105])) .nil))) .nil))))) .nil)))))) := rfl
@[simp] theorem evS_par (c : Nat → List D → Sto → Out D) (f : FS) (S : Sto) (is : List Nat) (es : Es) : evS c (.par is es) f S = (evEs c es f S).so f fun ds S => parD f is ds S := by conv => lhs; unfold evS
theorem k01_true (P : Phi01 Φ) (ns : List Int) : ∃ S, callN Φ 60 0 [.scr ns] [] = .ok (.bl true) S := by
  obtain ⟨v, hv, v0, v6⟩ : ∃ v : Int, bltD .max [.int 2, .int (if (10 : Int) < (ns.length : Int) then 10 else (ns.length : Int))] ([] : Sto) = .ok (.int v) [] ∧ 0 ≤ v ∧ v ≤ 1000 := by
    refine ⟨_, rfl, ?_, ?_⟩ <;> split <;> split <;> omega
  obtain ⟨f', S1, e1, b, e, g, i, rfl⟩ := forL_inv3 (bd := forB (.name 1) (evSs (callN Φ 59) bodyK1)) (I := fun f _ => ∃ b e g i, f = [some (.scr ns), b, none, none, e, g, i, none, none, none]) (S := []) (xs := upFrom 0 v.toNat) (f := [some (.scr ns), none, none, none, none, none, none, none, none, none])
    (fun y hy f S hf => by
      obtain ⟨b, e, g, i, rfl⟩ := hf
      obtain ⟨j, hj, rfl⟩ := List.mem_map.mp hy
      rw [show (0 : Int) + (j : Int) = (j : Int) from Int.zero_add _]
      obtain ⟨e', g', i', S', h⟩ := k1_turn P (N := 59) (by decide) (ns := ns) (k := j) (b := b) (c := none) (d := none) (e := e) (g := g) (i := i) (j := none) (l := none) (m := none) (S := S)
      exact ⟨_, S', h, _, _, _, _, rfl⟩) ⟨none, none, none, none, rfl⟩
  obtain ⟨f2, e2, o3, o7, rfl⟩ := forL_inv (bd := forB (.name 3) (evSs (callN Φ 59) bodyThing)) (I := fun f => ∃ o3 o7, f = [some (.scr ns), b, some (.lst things0), o3, e, g, i, o7, none, none]) (S := S1) (xs := things0 ++ things1) (f := [some (.scr ns), b, some (.lst things0), none, e, g, i, none, none, none])
    (fun y hy f hf => by
      obtain ⟨o3, o7, rfl⟩ := hf
      obtain ⟨h1, h2⟩ := things_dt y hy
      exact ⟨_, thing_turn P (N := 59) (by decide) h1 h2, _, _, rfl⟩) ⟨none, none, rfl⟩
  obtain ⟨o1, e3⟩ := wide_loop (callN Φ 59) S1 (a := some (.scr ns)) (b := some (.lst things0)) (c' := o3) (e := e) (g := g) (i := i) (j := o7) (upFrom 0 5) b (.tup [.str sSign, .str [97]]) (.tup [.str sSign, .str [98]])
  have e3' : forL [] (forB (.name 1) (evSs (callN Φ 59) bodyWide)) (upFrom 0 5) [some (.scr ns), b, some (.lst things0), o3, e, g, i, o7, some (.tup [.str sSign, .str [97]]), some (.tup [.str sSign, .str [98]])] S1 = .nx [some (.scr ns), o1, some (.lst things0), o3, e, g, i, o7, some wide5, some deep5] S1 := e3
  have r5 : rng1D (.int 5) S1 = .ok ⟨[], upFrom 0 5⟩ S1 := range_ok (by decide) (by decide) S1
  have hlen : bltD .len [.scr ns] ([] : Sto) = .ok (.int ns.length) [] := by simp [bltD, seqOf]
  have hmin : bltD .min [.int (ns.length : Int), .int 10] ([] : Sto) = .ok (.int (if (10 : Int) < (ns.length : Int) then 10 else (ns.length : Int))) [] := rfl
  have w1 := is_pattern_val P.g (d := wide5) (sm_of (by decide +kernel)) (N := 59) (S := S1) (by decide)
  have w2 := is_pattern_val P.g (d := .tup [.str sOr, deep5, wide5]) (sm_of (by decide +kernel)) (N := 59) (S := S1) (by decide)
  have w3 := is_pattern_val P.g (d := .tup [.str sOr, deep5, .lst [wide5]]) (sm_of (by decide +kernel)) (N := 59) (S := S1) (by decide)
  have w4 := is_pattern_val P.g (d := .tup [.str sSign, .str [104]]) (sm_of (by decide +kernel)) (N := 59) (S := S1) (by decide)
  have w5 := is_pattern_val P.g (d := .tup [.str sSign, .str [105]]) (sm_of (by decide +kernel)) (N := 59) (S := S1) (by decide)
  rw [show isP wide5 = true by decide +kernel] at w1
  rw [show isP (.tup [.str sOr, deep5, wide5]) = true by decide +kernel] at w2
  rw [show isP (.tup [.str sOr, deep5, .lst [wide5]]) = false by decide +kernel] at w3
  rw [show isP (.tup [.str sSign, .str [104]]) = true by decide +kernel] at w4
  rw [show isP (.tup [.str sSign, .str [105]]) = false by decide +kernel] at w5
  have w2 : callN Φ 59 4 [.tup [.str [111, 114], deep5, wide5]] S1 = .ok (.bl true) S1 := w2
  have w3 : callN Φ 59 4 [.tup [.str [111, 114], deep5, .lst [wide5]]] S1 = .ok (.bl false) S1 := w3
  have w4 : callN Φ 59 4 [.tup [.str [115, 105, 103, 110], .str [104]]] S1 = .ok (.bl true) S1 := w4
  have w5 : callN Φ 59 4 [.tup [.str [115, 105, 103, 110], .str [105]]] S1 = .ok (.bl false) S1 := w5
  have m1 : binD .mul (.str [97]) (.int 31) S1 = .ok (.str (List.replicate 31 [97]).flatten) S1 := rfl
  have m2 : binD .mul (.str [97, 98, 104]) (.int 200) S1 = .ok (.str (List.replicate 200 [97, 98, 104]).flatten) S1 := rfl
  have m3 : binD .add (.str (List.replicate 200 [97, 98, 104]).flatten) (.str [105]) S1 = .ok (.str ((List.replicate 200 [97, 98, 104]).flatten ++ [105])) S1 := rfl
  have ad : binD .add (.lst things0) (.lst things1) S1 = .ok (.lst (things0 ++ things1)) S1 := rfl
  have nb : ∀ T, notBD true (.bl true) T = .ok (.bl false) T := fun _ => rfl
  have ib : ∀ T, isBD true (.bl true) T = .ok (.bl true) T := fun _ => rfl
  have ib2 : ∀ T, isBD false (.bl false) T = .ok (.bl true) T := fun _ => rfl
  have go : ∃ S', evSs (callN Φ 59) f0_k01.body (start f0_k01 [.scr ns]) [] = .ret (.bl true) S' := by
    refine ⟨S1, ?_⟩
    rw [body_k01]
    have st : start f0_k01 [.scr ns] = [some (.scr ns), none, none, none, none, none, none, none, none, none] := rfl
    rw [st]
    have A1 : evS (callN Φ 59) (.fors (.name 1) (.range1 (.blt .max (.cons (.cst (.int 2)) (.cons (.blt .min (.cons (.blt .len (.cons (.var 0) .nil)) (.cons (.cst (.int 10)) .nil))) .nil)))) bodyK1) [some (.scr ns), none, none, none, none, none, none, none, none, none] [] = .nx [some (.scr ns), b, none, none, e, g, i, none, none, none] S1 := by
      simp only [evS_fors, evi_r1, ev_blt, evs_cons, evs_nil, ev_cst, ev_var, getS_zero, Out.ok_bind, hlen, hmin, hv, range_ok v0 v6, Out.so_ok, e1]
    have A2 : evS (callN Φ 59) (.asg (.name 2) (.lst (.cons (.cst (.str [])) (.cons (.cst (.str [97])) (.cons (.cst (.str [104])) (.cons (.cst (.str [104, 103, 102, 101, 100, 99, 98, 97])) (.cons (.cst (.str [105])) (.cons (.cst (.str [65])) (.cons (.cst (.str [97, 66])) (.cons (.cst (.str [97, 32, 98])) (.cons (.cst (.str [32])) (.cons (.cst .non) (.cons (.cst (.int 0)) (.cons (.cst (.bl true)) (.cons (.lst (.cons (.cst (.str [97])) .nil)) (.cons (.tup (.cons (.cst (.str [97])) .nil)) (.cons (.cst (.str [97, 98, 10])) (.cons (.tup .nil) (.cons (.lst .nil) .nil))))))))))))))))))) [some (.scr ns), b, none, none, e, g, i, none, none, none] S1 = .nx [some (.scr ns), b, some (.lst things0), none, e, g, i, none, none, none] S1 := by
      simp [things0]
    have l1 : evE (callN Φ 59) (.lst (.cons (.cst (.str [48])) (.cons (.bin .mul (.cst (.str [97])) (.cst (.int 31))) (.cons (.bin .mul (.cst (.str [97, 98, 104])) (.cst (.int 200))) (.cons (.bin .add (.bin .mul (.cst (.str [97, 98, 104])) (.cst (.int 200))) (.cst (.str [105]))) .nil))))) [some (.scr ns), b, some (.lst things0), none, e, g, i, none, none, none] S1 = .ok (.lst things1) S1 := by
      simp only [ev_lst, evs_cons, ev_cst, Out.ok_bind, ev_bin, m1, m2, m3, evs_nil]
      rfl
    have A3 : evS (callN Φ 59) (.fors (.name 3) (.val (.bin .add (.var 2) (.lst (.cons (.cst (.str [48])) (.cons (.bin .mul (.cst (.str [97])) (.cst (.int 31))) (.cons (.bin .mul (.cst (.str [97, 98, 104])) (.cst (.int 200))) (.cons (.bin .add (.bin .mul (.cst (.str [97, 98, 104])) (.cst (.int 200))) (.cst (.str [105]))) .nil))))))) bodyThing) [some (.scr ns), b, some (.lst things0), none, e, g, i, none, none, none] S1 = .nx [some (.scr ns), b, some (.lst things0), o3, e, g, i, o7, none, none] S1 := by
      simp only [evS_fors, evi_val, ev_bin, ev_var, getS_succ, getS_zero, Out.ok_bind, l1, ad, val_lst, Out.so_ok, e2]
    have A4 : evS (callN Φ 59) (.par [8, 9] (.cons (.tup (.cons (.cst (.str [115, 105, 103, 110])) (.cons (.cst (.str [97])) .nil))) (.cons (.tup (.cons (.cst (.str [115, 105, 103, 110])) (.cons (.cst (.str [98])) .nil))) .nil))) [some (.scr ns), b, some (.lst things0), o3, e, g, i, o7, none, none] S1 = .nx [some (.scr ns), b, some (.lst things0), o3, e, g, i, o7, some (.tup [.str sSign, .str [97]]), some (.tup [.str sSign, .str [98]])] S1 := by
      simp [parD, setAll]
    have A5 : evS (callN Φ 59) (.fors (.name 1) (.range1 (.cst (.int 5))) bodyWide) [some (.scr ns), b, some (.lst things0), o3, e, g, i, o7, some (.tup [.str sSign, .str [97]]), some (.tup [.str sSign, .str [98]])] S1 = .nx [some (.scr ns), o1, some (.lst things0), o3, e, g, i, o7, some wide5, some deep5] S1 := by
      simp only [evS_fors, evi_r1, ev_cst, Out.ok_bind, r5, Out.so_ok, e3']
    simp only [evSs_cons, A1, thenS_nx, A2, A3, A4, A5]
    have ln2 : ∀ x y : D, (List.length [x, y] ≤ sz) = True := fun _ _ => eq_true (by simp)
    have ln3 : ∀ x y z : D, (List.length [x, y, z] ≤ sz) = True := fun _ _ _ => eq_true (by simp)
    have ln1 : ∀ x : D, (List.length [x] ≤ sz) = True := fun _ => eq_true (by simp)
    simp only [evSs_cons, evS_ifs, ev_or, ev_notB, ev_call, evs_cons, evs_nil, ev_var, getS_succ, getS_zero, Out.ok_bind, w1, nb, orD_false, ev_tup, ev_lst, ev_cst, ln1, ln2, ln3, if_true, w2, w3, Out.so_ok, ifD_false, evSs_nil, thenS_nx, evS_ret, ev_and, ev_isB, w4, ib, andD_true, w5, ib2, thenS_ret]
  obtain ⟨S', go⟩ := go
  exact ⟨_, call_ret' P.h0 ⟨rfl, by decide⟩ go⟩
end SL
set_option Elab.async false
set_option linter.all false
set_option maxRecDepth 100000
set_option maxHeartbeats 2000000
/-! E1: lines: how they are written, when they hold. -/
namespace SL
open PySem
variable {Φ : Nat → Option Def}
section
variable {c : Nat → List D → Sto → Out D} {f : FS} {S : Sto}
@[simp] theorem ev_disp (ks : List DK) (vs : Es) : evE c (.disp ks vs) f S = (evEs c vs f S).bind fun ds S => dispD ks ds S := by conv => lhs; unfold evE
@[simp] theorem ev_dget (o e d : E) : evE c (.dget o e d) f S = (evE c o f S).bind fun x S => dgetX (evE c e) (evE c d) f x S := by conv => lhs; unfold evE
@[simp] theorem ev_callD (g : Nat) (es : Es) : evE c (.callD g es) f S = (evEs c es f S).bind fun ds S => c g (ds ++ [.tup []]) S := by conv => lhs; unfold evE
@[simp] theorem evs_star (e : E) (r : Es) : evEs c (.star e r) f S = (evE c e f S).bind fun d S => starD (evEs c r) f d S := by conv => lhs; unfold evEs
@[simp] theorem iteD_true (ta tb : FS → Sto → Out D) : iteD ta tb f (.bl true) S = ta f S := rfl
@[simp] theorem iteD_false (ta tb : FS → Sto → Out D) : iteD ta tb f (.bl false) S = tb f S := rfl
@[simp] theorem negD_int (i : Int) : negD (.int i) S = .ok (.int (-i)) S := rfl
end
theorem eqv_tup (xs ys : List PyData) : PyData.eqv (.tuple xs) (.tuple ys) = PyData.eqvAll xs ys := by unfold PyData.eqv; rfl
theorem eqv_str (x y : Str) : PyData.eqv (.str x) (.str y) = (x == y) := by unfold PyData.eqv; rfl
theorem eqv_cc (x y : PyData) (xs ys : List PyData) : PyData.eqvAll (x :: xs) (y :: ys) = (PyData.eqv x y && PyData.eqvAll xs ys) := by conv => lhs; unfold PyData.eqvAll
theorem eqv_nn : PyData.eqvAll [] [] = true := by unfold PyData.eqvAll; rfl
theorem eqv_nc (y : PyData) (ys : List PyData) : PyData.eqvAll [] (y :: ys) = false := by unfold PyData.eqvAll; rfl
theorem eqv_cn (y : PyData) (ys : List PyData) : PyData.eqvAll (y :: ys) [] = false := by unfold PyData.eqvAll; rfl
theorem re_eqv (r : Re) : ∀ q : Re, PyData.eqv (toP r.d) (toP q.d) = decide (r = q) := by
  induction r with
  | none => intro q; cases q <;> simp [Re.d, toP, toPs, eqv_tup, eqv_cc, eqv_nn, eqv_nc, eqv_cn, eqv_str, str_beq]
  | empty => intro q; cases q <;> simp [Re.d, toP, toPs, eqv_tup, eqv_cc, eqv_nn, eqv_nc, eqv_cn, eqv_str, str_beq]
  | sign c => intro q; cases q <;> simp [Re.d, toP, toPs, eqv_tup, eqv_cc, eqv_nn, eqv_nc, eqv_cn, eqv_str, str_beq]
  | or a b iha ihb => intro q; cases q <;> simp [Re.d, toP, toPs, eqv_tup, eqv_cc, eqv_nn, eqv_nc, eqv_cn, eqv_str, str_beq, iha, ihb]
  | thn a b iha ihb => intro q; cases q <;> simp [Re.d, toP, toPs, eqv_tup, eqv_cc, eqv_nn, eqv_nc, eqv_cn, eqv_str, str_beq, iha, ihb]
  | star a iha => intro q; cases q <;> simp [Re.d, toP, toPs, eqv_tup, eqv_cc, eqv_nn, eqv_nc, eqv_cn, eqv_str, str_beq, iha]
theorem re_cmp {r q : Re} (h : Dt r.d) (g : Dt q.d) (S : Sto) : cmpD .eq r.d q.d S = .ok (.bl (decide (r = q))) S := by
  rw [cmp_eq (eqD_dt h g S), re_eqv]
theorem re_cmpn {r q : Re} (h : Dt r.d) (g : Dt q.d) (S : Sto) : cmpD .ne r.d q.d S = .ok (.bl (!decide (r = q))) S := by
  rw [cmp_ne (eqD_dt h g S), re_eqv]
/-- a pattern that is not too deep -/
def Re.sm (r : Re) : Prop := r.ok ∧ r.ht ≤ 40
theorem re_lay : ∀ r : Re, r.ok → flat r.d = true ∧ (toP r.d).canLay0 = true
  | .none, _ => by decide +kernel
  | .empty, _ => by decide +kernel
  | .sign c, h => by
    have : ∀ c ∈ sigs, flat (Re.sign c).d = true ∧ (toP (Re.sign c).d).canLay0 = true := by decide +kernel
    exact this c h
  | .or a b, h => by
    obtain ⟨a1, a2⟩ := re_lay a h.1
    obtain ⟨b1, b2⟩ := re_lay b h.2
    exact ⟨by simp [Re.d, flat, flats, a1, b1], by simp [Re.d, toP, toPs, PyData.canLay0, PyData.canLayAll0, a2, b2]; decide +kernel⟩
  | .thn a b, h => by
    obtain ⟨a1, a2⟩ := re_lay a h.1
    obtain ⟨b1, b2⟩ := re_lay b h.2
    exact ⟨by simp [Re.d, flat, flats, a1, b1], by simp [Re.d, toP, toPs, PyData.canLay0, PyData.canLayAll0, a2, b2]; decide +kernel⟩
  | .star a, h => by
    obtain ⟨a1, a2⟩ := re_lay a h
    exact ⟨by simp [Re.d, flat, flats, a1], by simp [Re.d, toP, toPs, PyData.canLay0, PyData.canLayAll0, a2]; decide +kernel⟩
theorem Re.sm.dt {r : Re} (h : r.sm) : Dt r.d := ⟨(re_lay r h.1).1, (re_lay r h.1).2, by rw [Re.depth_eq]; have := h.2; omega⟩
def Re.s30 (r : Re) : Prop := r.ok ∧ r.ht ≤ 30
theorem Re.s30.sm {r : Re} (h : r.s30) : r.sm := ⟨h.1, by have := h.2; omega⟩
theorem Re.s30.dt {r : Re} (h : r.s30) : Dt r.d := h.sm.dt
theorem Re.s30.star {r : Re} (h : r.s30) : Dt (Re.star r).d := Re.sm.dt ⟨h.1, by have := h.2; simp only [Re.ht]; omega⟩
theorem Re.s30.or {r q : Re} (h : r.s30) (g : q.s30) : Dt (Re.or r q).d := Re.sm.dt ⟨⟨h.1, g.1⟩, by have := h.2; have := g.2; simp only [Re.ht]; omega⟩
theorem Re.s30.thn {r q : Re} (h : r.s30) (g : q.s30) : Dt (Re.thn r q).d := Re.sm.dt ⟨⟨h.1, g.1⟩, by have := h.2; have := g.2; simp only [Re.ht]; omega⟩
theorem dep_dt {d : D} (h : Dt d) {n : Nat} (hd : (toP d).depth ≤ n) : (toP d).depth ≤ n := hd
theorem Re.sm.dep {r : Re} (h : r.sm) : (toP r.d).depth ≤ 40 := by rw [Re.depth_eq]; exact h.2
end SL
set_option Elab.async false
set_option linter.all false
set_option maxRecDepth 100000
set_option maxHeartbeats 2000000
/-! E2: numbers, and what earlier lines give. -/
namespace SL
open PySem
variable {Φ : Nat → Option Def}
abbrev sRule : List Nat := [114, 117, 108, 101]
abbrev sSame : List Nat := [115, 97, 109, 101]
abbrev sTurned : List Nat := [116, 117, 114, 110, 101, 100]
abbrev sChained : List Nat := [99, 104, 97, 105, 110, 101, 100]
abbrev sTold : List Nat := [116, 111, 108, 100]
abbrev sEA : List Nat := [101, 109, 112, 116, 121, 32, 97, 104, 101, 97, 100]
inductive Nb where
  | int (i : Int)
  | bl (b : Bool)
  | nul
  | txt
inductive Rs where
  | rul
  | same
  | lsame
  | tur (k : Int)
  | str (k : Int)
  | chn (i j : Int)
  | two (o : Bool) (i j : Int)
  | chn3 (i j k : Int)
  | tld (k : Nb)
def Nb.d : Nb → D
  | .int i => .int i
  | .bl b => .bl b
  | .nul => .non
  | .txt => .str [48]
abbrev sTwo (o : Bool) : List Nat := if o then sOr else sThen
def Rs.d : Rs → D
  | .rul => .tup [.str sRule, .str sEA]
  | .same => .tup [.str sSame]
  | .lsame => .lst [.str sSame]
  | .tur k => .tup [.str sTurned, .int k]
  | .str k => .tup [.str sStar, .int k]
  | .chn i j => .tup [.str sChained, .int i, .int j]
  | .two o i j => .tup [.str (sTwo o), .int i, .int j]
  | .chn3 i j k => .tup [.str sChained, .int i, .int j, .int k]
  | .tld k => .tup [.str sTold, k.d]
structure Ln where
  l : Re
  r : Re
  rs : Rs
def Ln.d (x : Ln) : D := .tup [x.l.d, x.r.d, x.rs.d]
def Ln.ok (x : Ln) : Prop := x.l.s30 ∧ x.r.s30
def nth (ls : List Ln) (i : Int) : Ln := ls.getD i.toNat ⟨.none, .none, .same⟩
def inb (n : Nat) (i : Int) : Bool := decide (0 ≤ i) && decide (i < n)
def Nb.at (n : Nat) : Nb → Bool
  | .int i => inb n i
  | _ => false
structure PhiN (Φ : Nat → Option Def) : Prop where
  h49 : Φ 49 = some f49_is_whole
  h50 : Φ 50 = some f50_is_below
  h53 : Φ 53 = some f53_are_numbers
  h57 : Φ 57 = some f57_by_told
  h58 : Φ 58 = some f58_by_lines
  h73 : Φ 73 = some f73_L_whole
  h104 : Φ 104 = some f104_L_numbers
def Nb.whole : Nb → Bool
  | .int _ => true
  | _ => false
theorem whole_val (P : PhiN Φ) (k : Nb) (S : Sto) (N : Nat) (hN : 1 ≤ N) : callN Φ N 49 [k.d] S = .ok (.bl k.whole) S ∧ callN Φ N 73 [k.d] S = .ok (.bl k.whole) S := by
  obtain ⟨n, rfl, _⟩ := pre_pos (k := 0) hN
  constructor
  · refine call_ret P.h49 ⟨rfl, by decide⟩ ?_
    cases k <;> simp [f49_is_whole, start, Nb.d, isTy, Nb.whole]
  · refine call_ret P.h73 ⟨rfl, by decide⟩ ?_
    cases k <;> simp [f73_L_whole, start, Nb.d, isTy, Nb.whole]
theorem below_val (P : PhiN Φ) (k : Nb) (n : Nat) (S : Sto) (N : Nat) (hN : 2 ≤ N) : callN Φ N 50 [k.d, .int n] S = .ok (.bl (k.at n)) S := by
  obtain ⟨m, rfl, hm⟩ := pre_pos (k := 1) hN
  have w := (whole_val P k S m hm).1
  refine call_ret P.h50 ⟨rfl, by decide⟩ ?_
  cases k with
  | int i =>
    have w : callN Φ m 49 [.int i] S = .ok (.bl true) S := w
    by_cases q : 0 ≤ i
    · simp [f50_is_below, start, Nb.d, w, Nb.at, inb, q]
    · simp [f50_is_below, start, Nb.d, w, Nb.at, inb, q]
  | bl b =>
    have w : callN Φ m 49 [.bl b] S = .ok (.bl false) S := w
    simp [f50_is_below, start, Nb.d, w, Nb.at]
  | nul =>
    have w : callN Φ m 49 [.non] S = .ok (.bl false) S := w
    simp [f50_is_below, start, Nb.d, w, Nb.at]
  | txt =>
    have w : callN Φ m 49 [.str [48]] S = .ok (.bl false) S := w
    simp [f50_is_below, start, Nb.d, w, Nb.at]
theorem numbers_val (P : PhiN Φ) (ks : List Nb) (n : Nat) (S : Sto) (N : Nat) (hN : 3 ≤ N) : callN Φ N 53 [.tup (ks.map Nb.d), .int n] S = .ok (.bl (ks.all (Nb.at n))) S := by
  obtain ⟨m, rfl, hm⟩ := pre_pos (k := 2) hN
  refine call_ret P.h53 ⟨rfl, by decide⟩ ?_
  have cm : ∀ a, compD (.name 2) (evO (callN Φ m) .no) (evE (callN Φ m) (.call 50 (.cons (.var 2) (.cons (.var 1) .nil)))) [2] [a, some (.int n), none] ⟨[], ks.map Nb.d⟩ S = .ok (.lst (ks.map fun k => .bl (k.at n))) S := fun a => by
    unfold compD
    have : ∀ ks : List Nb, compL [] (stepD (.name 2) (evO (callN Φ m) .no) (evE (callN Φ m) (.call 50 (.cons (.var 2) (.cons (.var 1) .nil)))) (wipe [a, some (.int n), none] [2])) (ks.map Nb.d) S = .ok (ks.map fun k => .bl (k.at n)) S := fun ks => by
      induction ks with
      | nil => unfold compL; simp [chk_nil]
      | cons k ks ih =>
        simp only [List.map_cons]
        unfold compL
        rw [if_pos (chk_nil S), step_no (f' := [a, some (.int n), some k.d]) rfl (r := .bl (k.at n)) (S' := S) (by simp [below_val P k n S m hm])]
        dsimp only
        rw [ih]
        rfl
    simp only [this]
  simp [f53_are_numbers, start, cm, all_bl]
theorem filt_emp (n : Nat) (ks : List Nb) : ((ks.filter fun k => !k.at n).map Nb.d).isEmpty = ks.all (Nb.at n) := by
  induction ks with
  | nil => rfl
  | cons k ks ih =>
    cases q : k.at n
    · simp [q]
    · simp [q] at ih ⊢
      exact ih
theorem L_numbers_val (P : PhiN Φ) (ks : List Nb) (n : Nat) (S : Sto) (N : Nat) (hN : 2 ≤ N) : callN Φ N 104 [.tup (ks.map Nb.d), .int n] S = .ok (.bl (ks.all (Nb.at n))) S := by
  obtain ⟨m, rfl, hm⟩ := pre_pos (k := 1) hN
  refine call_ret P.h104 ⟨rfl, by decide⟩ ?_
  have cm : ∀ a, compD (.name 2) (evO (callN Φ m) (.yes (.or (.not (.call 73 (.cons (.var 2) .nil))) (.or (.cmp .lt (.var 2) (.cst (.int 0))) (.cmp .ge (.var 2) (.var 1)))))) (evE (callN Φ m) (.var 2)) [2] [a, some (.int n), none] ⟨[], ks.map Nb.d⟩ S = .ok (.lst ((ks.filter fun k => !k.at n).map Nb.d)) S := fun a => by
    unfold compD
    have : ∀ ks : List Nb, compL [] (stepD (.name 2) (evO (callN Φ m) (.yes (.or (.not (.call 73 (.cons (.var 2) .nil))) (.or (.cmp .lt (.var 2) (.cst (.int 0))) (.cmp .ge (.var 2) (.var 1)))))) (evE (callN Φ m) (.var 2)) (wipe [a, some (.int n), none] [2])) (ks.map Nb.d) S = .ok ((ks.filter fun k => !k.at n).map Nb.d) S := fun ks => by
      induction ks with
      | nil => unfold compL; simp [chk_nil]
      | cons k ks ih =>
        simp only [List.map_cons]
        unfold compL
        have st : stepD (.name 2) (evO (callN Φ m) (.yes (.or (.not (.call 73 (.cons (.var 2) .nil))) (.or (.cmp .lt (.var 2) (.cst (.int 0))) (.cmp .ge (.var 2) (.var 1)))))) (evE (callN Φ m) (.var 2)) (wipe [a, some (.int n), none] [2]) k.d S = .ok (if (!k.at n) = true then some k.d else none) S := by
          refine step_yes (f' := [a, some (.int n), some k.d]) rfl ?_ (fun _ => by simp)
          have w := (whole_val P k S m hm).2
          cases k with
          | int i =>
            have w : callN Φ m 73 [.int i] S = .ok (.bl true) S := w
            by_cases q : i < 0
            · have : ¬ 0 ≤ i := by omega
              simp [Nb.d, w, Nb.at, inb, q, this]
            · have : 0 ≤ i := by omega
              simp [Nb.d, w, Nb.at, inb, q, this]
              by_cases z : i < (n : Int)
              · have : ¬ (n : Int) ≤ i := by omega
                simp [z, this]
              · have : (n : Int) ≤ i := by omega
                simp [z, this]
          | bl b =>
            have w : callN Φ m 73 [.bl b] S = .ok (.bl false) S := w
            simp [Nb.d, w, Nb.at]
          | nul =>
            have w : callN Φ m 73 [.non] S = .ok (.bl false) S := w
            simp [Nb.d, w, Nb.at]
          | txt =>
            have w : callN Φ m 73 [.str [48]] S = .ok (.bl false) S := w
            simp [Nb.d, w, Nb.at]
        rw [if_pos (chk_nil S), st]
        dsimp only
        rw [ih]
        cases q : k.at n <;> simp [q]
    simp only [this]
  have dt : Dt (.lst ((ks.filter fun k => !k.at n).map Nb.d)) := by
    refine (Dt.tup (fun d hd => ?_) ?_).2
    · obtain ⟨k, _, rfl⟩ := List.mem_map.mp hd
      cases k
      · exact .int
      · exact .bl
      · exact .non
      · exact dts rfl
    · have : ∀ ks : List Nb, PyData.depthAll (toPs (ks.map Nb.d)) = 0 := fun ks => by
        induction ks with
        | nil => rfl
        | cons k ks ih =>
          simp only [List.map_cons, toPs, PyData.depthAll, ih]
          cases k <;> rfl
      rw [this]
      decide
  have e := filt_emp n ks
  simp [f104_L_numbers, start, cm, eq_nil dt, e]
theorem sub_ls {S : Sto} {k : Nat} {ls : List Ln} (h : S[k]? = some (.lst (ls.map Ln.d))) {i : Int} (hi : inb ls.length i = true) : subD (.ref k) (.int i) S = .ok (nth ls i).d S := by
  obtain ⟨h0, h1⟩ := and2 hi
  have h0 := of_decide_eq_true h0
  have h1 := of_decide_eq_true h1
  have hl : i.toNat < ls.length := by omega
  simp [subD, seqOf, items, h, placeOf, h0, h1, nth, hl]
theorem slc2 (a b c : D) (S : Sto) : slcD (.tup [a, b, c]) none (some 2) S = .ok (.tup [a, b]) S := rfl
theorem len_ref {S : Sto} {k : Nat} {ls : List D} (h : S[k]? = some (.lst ls)) : bltD .len [.ref k] S = .ok (.int ls.length) S := by simp [bltD, seqOf, items, h]
def giv1 (w : List Nat) (e : Ln) : D := if w = sTurned then .tup [e.r.d, e.l.d] else .tup [.tup [.str w, e.l.d], .tup [.str w, e.r.d]]
theorem by1 (P : PhiN Φ) {S : Sto} {k : Nat} {ls : List Ln} (h : S[k]? = some (.lst (ls.map Ln.d))) {w : List Nat} (hw : w = sTurned ∨ w = sStar) (i : Int) (N : Nat) (hN : 4 ≤ N) : callN Φ N 58 [.str w, .tup [.int i], .ref k] S = .ok (if inb ls.length i then giv1 w (nth ls i) else .non) S := by
  obtain ⟨m, rfl, hm⟩ := pre_pos (k := 3) hN
  refine call_ret P.h58 ⟨rfl, by decide⟩ ?_
  have nv : callN Φ m 53 [.tup [.int i], .int (ls.length : Int)] S = .ok (.bl (inb ls.length i)) S := by
    have := numbers_val P [.int i] ls.length S m hm
    simpa [Nb.d, Nb.at] using this
  have ln := len_ref h
  rw [List.length_map] at ln
  cases q : inb ls.length i with
  | false =>
    rw [q] at nv
    rcases hw with rfl | rfl <;> simp [f58_by_lines, start, dispD, dgetX, dictOf, dgetD, dkOf, kGet, ln, nv]
  | true =>
    rw [q] at nv
    have sb := sub_ls h q
    rw [show (nth ls i).d = .tup [(nth ls i).l.d, (nth ls i).r.d, (nth ls i).rs.d] from rfl] at sb
    rcases hw with rfl | rfl <;> simp [f58_by_lines, start, dispD, dgetX, dictOf, dgetD, dkOf, kGet, ln, nv, compD, compL, chk_nil, stepD, wipe, sb, slc2, sub_lst0, sub0, sub1, cmp_eq (eqD_str' _ _ S), giv1, starD, seqOf, items]
def giv2 (w : List Nat) (e f : Ln) : D := if w = sChained then (if e.r = f.l then .tup [e.l.d, f.r.d] else .non) else .tup [.tup [.str w, e.l.d, f.l.d], .tup [.str w, e.r.d, f.r.d]]
theorem by2 (P : PhiN Φ) {S : Sto} {k : Nat} {ls : List Ln} (hok : ∀ x ∈ ls, x.ok) (h : S[k]? = some (.lst (ls.map Ln.d))) {w : List Nat} (hw : w = sChained ∨ w = sOr ∨ w = sThen) (i j : Int) (N : Nat) (hN : 4 ≤ N) : callN Φ N 58 [.str w, .tup [.int i, .int j], .ref k] S = .ok (if inb ls.length i && inb ls.length j then giv2 w (nth ls i) (nth ls j) else .non) S := by
  obtain ⟨m, rfl, hm⟩ := pre_pos (k := 3) hN
  refine call_ret P.h58 ⟨rfl, by decide⟩ ?_
  have nv : callN Φ m 53 [.tup [.int i, .int j], .int (ls.length : Int)] S = .ok (.bl (inb ls.length i && inb ls.length j)) S := by
    have := numbers_val P [.int i, .int j] ls.length S m hm
    simpa [Nb.d, Nb.at] using this
  have ln := len_ref h
  rw [List.length_map] at ln
  cases q : (inb ls.length i && inb ls.length j) with
  | false =>
    rw [q] at nv
    rcases hw with rfl | rfl | rfl <;> simp [f58_by_lines, start, dispD, dgetX, dictOf, dgetD, dkOf, kGet, ln, nv]
  | true =>
    rw [q] at nv
    obtain ⟨q1, q2⟩ := and2 q
    have sb := sub_ls h q1
    have sc := sub_ls h q2
    rw [show (nth ls i).d = .tup [(nth ls i).l.d, (nth ls i).r.d, (nth ls i).rs.d] from rfl] at sb
    rw [show (nth ls j).d = .tup [(nth ls j).l.d, (nth ls j).r.d, (nth ls j).rs.d] from rfl] at sc
    have mm : ∀ t, inb ls.length t = true → (nth ls t).ok := fun t ht => by
      obtain ⟨h0, h1⟩ := and2 ht
      have h0 := of_decide_eq_true h0
      have h1 := of_decide_eq_true h1
      have hl : t.toNat < ls.length := by omega
      have : nth ls t = ls[t.toNat] := by simp [nth, hl]
      rw [this]
      exact hok _ (List.getElem_mem hl)
    have ce := re_cmp (mm i q1).2.dt (mm j q2).1.dt S
    rcases hw with rfl | rfl | rfl
    · by_cases z : (nth ls i).r = (nth ls j).l
      · rw [decide_eq_true z] at ce
        simp [f58_by_lines, start, dispD, dgetX, dictOf, dgetD, dkOf, kGet, ln, nv, compD, compL, chk_nil, stepD, wipe, sb, sc, slc2, sub_lst0, pick0, pick1, sub0, sub1, cmp_eq (eqD_str' _ _ S), giv2, starD, seqOf, items, ce, if_pos z]
      · rw [decide_eq_false z] at ce
        simp [f58_by_lines, start, dispD, dgetX, dictOf, dgetD, dkOf, kGet, ln, nv, compD, compL, chk_nil, stepD, wipe, sb, sc, slc2, sub_lst0, pick0, pick1, sub0, sub1, cmp_eq (eqD_str' _ _ S), giv2, starD, seqOf, items, ce, z]
    · simp [f58_by_lines, start, dispD, dgetX, dictOf, dgetD, dkOf, kGet, ln, nv, compD, compL, chk_nil, stepD, wipe, sb, sc, slc2, sub_lst0, pick0, pick1, sub0, sub1, cmp_eq (eqD_str' _ _ S), giv2, starD, seqOf, items]
    · simp [f58_by_lines, start, dispD, dgetX, dictOf, dgetD, dkOf, kGet, ln, nv, compD, compL, chk_nil, stepD, wipe, sb, sc, slc2, sub_lst0, pick0, pick1, sub0, sub1, cmp_eq (eqD_str' _ _ S), giv2, starD, seqOf, items]
theorem by3 (P : PhiN Φ) {S : Sto} {k : Nat} {i j l : Int} (N : Nat) (hN : 1 ≤ N) : callN Φ N 58 [.str sChained, .tup [.int i, .int j, .int l], .ref k] S = .ok .non S := by
  obtain ⟨m, rfl, hm⟩ := pre_pos (k := 0) hN
  refine call_ret P.h58 ⟨rfl, by decide⟩ ?_
  simp [f58_by_lines, start, dispD, dgetX, dictOf, dgetD, dkOf, kGet]
end SL
set_option Elab.async false
set_option linter.all false
set_option maxRecDepth 100000
set_option maxHeartbeats 2000000
/-! E3: a line holds, by the program and by the law. -/
namespace SL
open PySem
variable {Φ : Nat → Option Def}
theorem tup2_dt {a b : D} (h : Dt a) (g : Dt b) (ha : (toP a).depth ≤ 50) (hb : (toP b).depth ≤ 50) : Dt (.tup [a, b]) := by
  refine (Dt.tup (fun d hd => ?_) ?_).1
  · simp only [List.mem_cons, List.not_mem_nil, or_false] at hd
    rcases hd with rfl | rfl <;> assumption
  · simp only [toPs, PyData.depthAll]; omega
def dp (r : Re) : Prop := Dt r.d ∧ (toP r.d).depth ≤ 50
theorem Re.sm.dp {r : Re} (h : r.sm) : dp r := ⟨h.dt, by have := h.dep; omega⟩
theorem pair_cmp {a b c e : Re} (ha : dp a) (hb : dp b) (hc : dp c) (he : dp e) (S : Sto) : cmpD .eq (.tup [a.d, b.d]) (.tup [c.d, e.d]) S = .ok (.bl (decide (a = c) && decide (b = e))) S := by
  rw [cmp_eq (eqD_dt (tup2_dt ha.1 hb.1 ha.2 hb.2) (tup2_dt hc.1 he.1 hc.2 he.2) S)]
  simp only [toP, toPs, eqv_tup, eqv_cc, eqv_nn, re_eqv, Bool.and_true]
theorem non_cmp {c e : Re} (hc : dp c) (he : dp e) (S : Sto) : cmpD .eq .non (.tup [c.d, e.d]) S = .ok (.bl false) S := by
  rw [cmp_eq (eqD_dt Dt.non (tup2_dt hc.1 he.1 hc.2 he.2) S)]
  rfl
theorem non_re {c : Re} (hc : Dt c.d) (S : Sto) : cmpD .eq .non c.d S = .ok (.bl false) S := by
  rw [cmp_eq (eqD_dt Dt.non hc S)]
  cases c <;> rfl
theorem nb_dt (k : Nb) : Dt k.d ∧ (toP k.d).depth = 0 := by
  cases k
  · exact ⟨.int, rfl⟩
  · exact ⟨.bl, rfl⟩
  · exact ⟨.non, rfl⟩
  · exact ⟨dts rfl, rfl⟩
theorem rs_dt (x : Rs) : Dt x.d := by
  have tw : ∀ o : Bool, Dt (.str (sTwo o)) := fun o => by cases o <;> exact dts rfl
  cases x with
  | rul => exact (Dt.tup (fun d hd => by simp at hd; rcases hd with rfl | rfl <;> exact dts rfl) (by decide)).1
  | same => exact (Dt.tup (fun d hd => by simp at hd; rcases hd with rfl; exact dts rfl) (by decide)).1
  | lsame => exact (Dt.tup (fun d hd => by simp at hd; rcases hd with rfl; exact dts rfl) (by decide)).2
  | tur k => exact (Dt.tup (fun d hd => by simp at hd; rcases hd with rfl | rfl; exact dts rfl; exact .int) (by simp [toPs, toP, PyData.depthAll, PyData.depth])).1
  | str k => exact (Dt.tup (fun d hd => by simp at hd; rcases hd with rfl | rfl; exact dts rfl; exact .int) (by simp [toPs, toP, PyData.depthAll, PyData.depth])).1
  | chn i j => exact (Dt.tup (fun d hd => by simp at hd; rcases hd with rfl | rfl | rfl; exact dts rfl; exact .int; exact .int) (by simp [toPs, toP, PyData.depthAll, PyData.depth])).1
  | two o i j => exact (Dt.tup (fun d hd => by simp only [List.mem_cons, List.not_mem_nil, or_false] at hd; rcases hd with rfl | rfl | rfl; exact tw o; exact .int; exact .int) (by simp [toPs, toP, PyData.depthAll, PyData.depth])).1
  | chn3 i j k => exact (Dt.tup (fun d hd => by simp at hd; rcases hd with rfl | rfl | rfl | rfl; exact dts rfl; exact .int; exact .int; exact .int) (by simp [toPs, toP, PyData.depthAll, PyData.depth])).1
  | tld k => exact (Dt.tup (fun d hd => by simp at hd; rcases hd with rfl | rfl; exact dts rfl; exact (nb_dt k).1) (by simp [toPs, toP, PyData.depthAll, PyData.depth, (nb_dt k).2])).1
/-- the patterns said to tell nothing -/
def tldD (t : Bool) (ts : List Re) : D := if t then .tup (ts.map Re.d) else .lst (ts.map Re.d)
def tat (ts : List Re) (i : Int) : Re := ts.getD i.toNat .none
theorem tld_len (t : Bool) (ts : List Re) (S : Sto) : bltD .len [tldD t ts] S = .ok (.int ts.length) S := by cases t <;> simp [tldD]
theorem tld_sub {t : Bool} {ts : List Re} {i : Int} (hi : inb ts.length i = true) (S : Sto) : subD (tldD t ts) (.int i) S = .ok (tat ts i).d S := by
  obtain ⟨h0, h1⟩ := and2 hi
  have h0 := of_decide_eq_true h0
  have h1 := of_decide_eq_true h1
  have hl : i.toNat < ts.length := by omega
  cases t <;> simp [tldD, subD, seqOf, items, placeOf, h0, h1, tat, hl]
theorem tld_non (t : Bool) (ts : List Re) : isND (tldD t ts) = false := by cases t <;> rfl
def Nb.get (ts : List Re) : Nb → Re
  | .int i => tat ts i
  | _ => .none
theorem told_val (P : PhiN Φ) (k : Nb) (t : Bool) (ts : List Re) (S : Sto) (N : Nat) (hN : 3 ≤ N) : callN Φ N 57 [k.d, tldD t ts] S = .ok (if k.at ts.length then .tup [(k.get ts).d, Re.none.d] else .non) S := by
  obtain ⟨m, rfl, hm⟩ := pre_pos (k := 2) hN
  have b := below_val P k ts.length S m hm
  refine call_ret P.h57 ⟨rfl, by decide⟩ ?_
  cases q : k.at ts.length with
  | false =>
    rw [q] at b
    simp [f57_by_told, start, tld_len, b]
  | true =>
    rw [q] at b
    cases k with
    | int i =>
      have s := tld_sub (t := t) (ts := ts) (i := i) q S
      have b : callN Φ m 50 [.int i, .int (ts.length : Int)] S = .ok (.bl true) S := b
      simp [f57_by_told, start, tld_len, b, Nb.d, s, Nb.get, Re.d]
    | bl b => cases q
    | nul => cases q
    | txt => cases q
def mk2 (o : Bool) (a b : Re) : Re := if o then .or a b else .thn a b
/-- the line holds -/
def hold (ts : List Re) (ls : List Ln) (x : Ln) : Bool := match x.rs with
  | .rul => match x.l with
    | .thn .empty y => decide (y = x.r)
    | _ => false
  | .same => decide (x.l = x.r)
  | .lsame => false
  | .tur k => inb ls.length k && (decide ((nth ls k).r = x.l) && decide ((nth ls k).l = x.r))
  | .str k => inb ls.length k && (decide (.star (nth ls k).l = x.l) && decide (.star (nth ls k).r = x.r))
  | .chn i j => (inb ls.length i && inb ls.length j) && (decide ((nth ls i).r = (nth ls j).l) && (decide ((nth ls i).l = x.l) && decide ((nth ls j).r = x.r)))
  | .two o i j => (inb ls.length i && inb ls.length j) && (decide (mk2 o (nth ls i).l (nth ls j).l = x.l) && decide (mk2 o (nth ls i).r (nth ls j).r = x.r))
  | .chn3 _ _ _ => false
  | .tld k => k.at ts.length && (decide (k.get ts = x.l) && decide (.none = x.r))
structure PhiH (Φ : Nat → Option Def) : Prop where
  n : PhiN Φ
  h32 : Φ 32 = some f32_behind_by
  h33 : Φ 33 = some f33_star_by
  h448 : Φ 448 = some f448_is_right_rule
  h449 : Φ 449 = some f449_concluded
  h450 : Φ 450 = some f450_holds
  h44 : Φ 44 = some f44_L_side
  h453 : Φ 453 = some f453_L_as_rule
  h454 : Φ 454 = some f454_L_holds
def rulB (l r : Re) : Bool := match l with
  | .thn .empty y => decide (y = r)
  | _ => false
theorem behind_val (P : PhiH Φ) {a b : Re} (ha : Dt a.d) (hb : Dt b.d) (S : Sto) (N : Nat) (hN : 1 ≤ N) : callN Φ N 32 [.str sEA, a.d, b.d] S = .ok (if a = .empty then b.d else .non) S := by
  obtain ⟨m, rfl, hm⟩ := pre_pos (k := 0) hN
  refine call_ret P.h32 ⟨rfl, by decide⟩ ?_
  have e : cmpD .eq a.d (.tup [.str [101, 109, 112, 116, 121]]) S = .ok (.bl (decide (a = .empty))) S := re_cmp (q := .empty) ha (by exact ⟨rfl, by decide +kernel, by decide +kernel⟩) S
  by_cases z : a = .empty
  · rw [decide_eq_true z] at e
    simp [f32_behind_by, start, cmp_eq (eqD_str' _ _ S), e, if_pos z]
  · rw [decide_eq_false z] at e
    simp [f32_behind_by, start, cmp_eq (eqD_str' _ _ S), e, if_neg z]
theorem starby_val (P : PhiH Φ) {a : D} (S : Sto) (N : Nat) (hN : 1 ≤ N) : callN Φ N 33 [.str sEA, a] S = .ok .non S := by
  obtain ⟨m, rfl, hm⟩ := pre_pos (k := 0) hN
  refine call_ret P.h33 ⟨rfl, by decide⟩ ?_
  simp [f33_star_by, start, cmp_eq (eqD_str' _ _ S)]
theorem rule_val (P : PhiH Φ) {l r : Re} (hl : l.s30) (hr : r.s30) (S : Sto) (N : Nat) (hN : 2 ≤ N) : callN Φ N 448 [.str sEA, l.d, r.d] S = .ok (.bl (rulB l r)) S := by
  obtain ⟨m, rfl, hm⟩ := pre_pos (k := 1) hN
  refine call_ret P.h448 ⟨rfl, by decide⟩ ?_
  have nr := non_re hr.dt S
  cases l with
  | none => simp [f448_is_right_rule, start, isTy, cmp_eq (eqD_str' _ _ S), Re.d, sub0, rulB]
  | empty => simp [f448_is_right_rule, start, isTy, cmp_eq (eqD_str' _ _ S), Re.d, sub0, rulB]
  | sign c => simp [f448_is_right_rule, start, isTy, cmp_eq (eqD_str' _ _ S), Re.d, sub0, rulB]
  | or a b => simp [f448_is_right_rule, start, isTy, cmp_eq (eqD_str' _ _ S), Re.d, sub0, rulB]
  | star a =>
    have sv := starby_val P (a := a.d) S m hm
    simp [f448_is_right_rule, start, isTy, cmp_eq (eqD_str' _ _ S), Re.d, sub0, sub1, rulB, sv, nr]
  | thn a b =>
    have ha : a.s30 := ⟨hl.1.1, by have := hl.2; simp only [Re.ht] at this; omega⟩
    have hb : b.s30 := ⟨hl.1.2, by have := hl.2; simp only [Re.ht] at this; omega⟩
    have bv := behind_val P ha.dt hb.dt S m hm
    by_cases z : a = .empty
    · rw [if_pos z] at bv
      subst z
      simp only [Re.d] at bv
      simp [f448_is_right_rule, start, isTy, cmp_eq (eqD_str' _ _ S), Re.d, sub0, sub1, sub2, rulB, bv, re_cmp hb.dt hr.dt]
    · rw [if_neg z] at bv
      have q : rulB (.thn a b) r = false := by
        cases a <;> first | rfl | exact absurd rfl z
      rw [q]
      simp [f448_is_right_rule, start, isTy, cmp_eq (eqD_str' _ _ S), Re.d, sub0, sub1, sub2, bv, nr]
def rulD (l : Re) : D := match l with
  | .thn .empty y => y.d
  | _ => .non
theorem L_side_val (P : PhiH Φ) {l : Re} (hl : l.s30) (S : Sto) (N : Nat) (hN : 1 ≤ N) : callN Φ N 44 [.str sEA, l.d] S = .ok (rulD l) S := by
  obtain ⟨m, rfl, hm⟩ := pre_pos (k := 0) hN
  refine call_ret P.h44 ⟨rfl, by decide⟩ ?_
  cases l with
  | none => simp [f44_L_side, start, cmp_eq (eqD_str' _ _ S), cmp_ne (eqD_str' _ _ S), Re.d, sub0, rulD]
  | empty => simp [f44_L_side, start, cmp_eq (eqD_str' _ _ S), cmp_ne (eqD_str' _ _ S), Re.d, sub0, rulD]
  | sign c => simp [f44_L_side, start, cmp_eq (eqD_str' _ _ S), cmp_ne (eqD_str' _ _ S), Re.d, sub0, rulD]
  | or a b => simp [f44_L_side, start, cmp_eq (eqD_str' _ _ S), cmp_ne (eqD_str' _ _ S), Re.d, sub0, rulD]
  | star a => simp [f44_L_side, start, cmp_eq (eqD_str' _ _ S), cmp_ne (eqD_str' _ _ S), Re.d, sub0, rulD]
  | thn a b =>
    have ha : a.s30 := ⟨hl.1.1, by have := hl.2; simp only [Re.ht] at this; omega⟩
    have e : cmpD .eq a.d (.tup [.str [101, 109, 112, 116, 121]]) S = .ok (.bl (decide (a = .empty))) S := re_cmp (q := .empty) ha.dt (by exact ⟨rfl, by decide +kernel, by decide +kernel⟩) S
    by_cases z : a = .empty
    · rw [decide_eq_true z] at e
      subst z
      simp only [Re.d] at e
      simp [f44_L_side, start, cmp_eq (eqD_str' _ _ S), cmp_ne (eqD_str' _ _ S), Re.d, sub0, sub1, sub2, parD, setAll, e, rulD]
    · rw [decide_eq_false z] at e
      have q : rulD (.thn a b) = .non := by
        cases a <;> first | rfl | exact absurd rfl z
      rw [q]
      simp [f44_L_side, start, cmp_eq (eqD_str' _ _ S), cmp_ne (eqD_str' _ _ S), Re.d, sub0, sub1, sub2, parD, setAll, e]
theorem L_rule_val (P : PhiH Φ) {l r : Re} (hl : l.s30) (hr : r.s30) (S : Sto) (N : Nat) (hN : 2 ≤ N) : callN Φ N 453 [.str sEA, l.d, r.d] S = .ok (.bl (rulB l r)) S := by
  obtain ⟨m, rfl, hm⟩ := pre_pos (k := 1) hN
  refine call_ret P.h453 ⟨rfl, by decide⟩ ?_
  have nr := non_re hr.dt S
  have sv := L_side_val P hl S m hm
  have fin : cmpD .eq (rulD l) r.d S = .ok (.bl (rulB l r)) S := by
    cases l with
    | thn a b =>
      cases a with
      | empty =>
        have hb : b.s30 := ⟨hl.1.2, by have := hl.2; simp only [Re.ht] at this; omega⟩
        exact re_cmp hb.dt hr.dt S
      | none => exact nr
      | sign c => exact nr
      | or x y => exact nr
      | thn x y => exact nr
      | star x => exact nr
    | none => exact nr
    | empty => exact nr
    | sign c => exact nr
    | or x y => exact nr
    | star x => exact nr
  simp only [f453_L_as_rule, start, List.map, List.length_cons, List.length_nil, List.replicate, List.cons_append, List.nil_append, evSs_cons, evS_ifs, ev_cmp, ev_var, getS_zero, getS_succ, ev_cst, Out.ok_bind, cmp_eq (eqD_str' _ _ S), Out.so_ok]
  simp [isTy, sv, fin]
end SL
set_option Elab.async false
set_option linter.all false
set_option maxRecDepth 100000
set_option maxHeartbeats 2000000
/-! E4: a line holds, by the program and by the law. -/
namespace SL
open PySem
variable {Φ : Nat → Option Def}
theorem mem_nth {ls : List Ln} (hok : ∀ x ∈ ls, x.ok) {t : Int} (ht : inb ls.length t = true) : (nth ls t).ok := by
  obtain ⟨h0, h1⟩ := and2 ht
  have h0 := of_decide_eq_true h0
  have h1 := of_decide_eq_true h1
  have hl : t.toNat < ls.length := by omega
  have : nth ls t = ls[t.toNat] := by simp [nth, hl]
  rw [this]
  exact hok _ (List.getElem_mem hl)
theorem mem_tat {ts : List Re} (hok : ∀ x ∈ ts, x.s30) {t : Int} (ht : inb ts.length t = true) : (tat ts t).s30 := by
  obtain ⟨h0, h1⟩ := and2 ht
  have h0 := of_decide_eq_true h0
  have h1 := of_decide_eq_true h1
  have hl : t.toNat < ts.length := by omega
  have : tat ts t = ts[t.toNat] := by simp [tat, hl]
  rw [this]
  exact hok _ (List.getElem_mem hl)
theorem none_s30 : Re.none.s30 := ⟨trivial, by decide⟩
theorem slc1' (e : D) (r : List D) (S : Sto) : slcD (.tup (e :: r)) (some 1) none S = .ok (.tup r) S := slc1 e r S
/-- what stands around a line -/
structure Ar (ts : List Re) (ls : List Ln) (k : Nat) (S : Sto) : Prop where
  tk : ∀ x ∈ ts, x.s30
  lk : ∀ x ∈ ls, x.ok
  at_ : S[k]? = some (.lst (ls.map Ln.d))
theorem dp_mk2 {o : Bool} {a b : Re} (h : a.s30) (g : b.s30) : dp (mk2 o a b) := by
  have : (mk2 o a b).sm := by
    cases o
    · exact ⟨⟨h.1, g.1⟩, by have := h.2; have := g.2; simp only [mk2, Re.ht]; simp only [Bool.false_eq_true, if_false, Re.ht]; omega⟩
    · exact ⟨⟨h.1, g.1⟩, by have := h.2; have := g.2; simp only [mk2, if_true, Re.ht]; omega⟩
  exact this.dp
theorem dp_star {a : Re} (h : a.s30) : dp (.star a) := (show (Re.star a).sm from ⟨h.1, by have := h.2; simp only [Re.ht]; omega⟩).dp
theorem conc_tld (P : PhiH Φ) {ts : List Re} {S : Sto} (t : Bool) (k : Nb) (o : D) (N : Nat) (hN : 4 ≤ N) : callN Φ N 449 [(Rs.tld k).d, o, tldD t ts] S = .ok (if k.at ts.length then .tup [(k.get ts).d, Re.none.d] else .non) S := by
  obtain ⟨m, rfl, hm⟩ := pre_pos (k := 3) hN
  refine call_ret P.h449 ⟨rfl, by decide⟩ ?_
  have ee := eq_empty (show Dt (.tup [.str sTold, k.d]) from rs_dt (.tld k)) S
  have tv := told_val P.n k t ts S m hm
  simp [f449_concluded, start, Rs.d, isTy, ee, sub0, sub1, cmp_eq (eqD_str' _ _ S), tv]
theorem conc_num (P : PhiH Φ) {S : Sto} {w : List Nat} {ks : List D} (dt : Dt (.tup (.str w :: ks))) (h1 : w ≠ [112, 97, 105, 114, 115]) (h2 : w ≠ sTold) {o t r : D} (N : Nat) (hN : 1 ≤ N) (hc : callN Φ N 58 [.str w, .tup ks, o] S = .ok r S) : callN Φ (N + 1) 449 [.tup (.str w :: ks), o, t] S = .ok r S := by
  refine call_ret P.h449 ⟨rfl, by decide⟩ ?_
  have ee := eq_empty dt S
  simp [f449_concluded, start, isTy, ee, sub0, cmp_eq (eqD_str' _ _ S), h1, h2, slc1, hc]
theorem hold_num (P : PhiH Φ) {S : Sto} {w : List Nat} {ks : List D} (dt : Dt (.tup (.str w :: ks))) (h1 : w ≠ [112, 97, 105, 114, 115]) (h2 : w ≠ sTold) (h3 : w ≠ sRule) (h4 : w ≠ sSame) {o t r : D} {x y : Re} {b : Bool} (N : Nat) (hN : 1 ≤ N) (hc : callN Φ N 58 [.str w, .tup ks, o] S = .ok r S) (hb : cmpD .eq r (.tup [x.d, y.d]) S = .ok (.bl b) S) : callN Φ (N + 2) 450 [x.d, y.d, .tup (.str w :: ks), o, t] S = .ok (.bl b) S := by
  have cn := conc_num P dt h1 h2 (t := t) N hN hc
  refine call_ret P.h450 ⟨rfl, by decide⟩ ?_
  have ee := eq_empty dt S
  simp [f450_holds, start, isTy, ee, sub0, cmp_eq (eqD_str' _ _ S), h1, h2, h3, h4, cn, hb]
theorem holds_val (P : PhiH Φ) {ts : List Re} {ls : List Ln} {k : Nat} {S : Sto} (A : Ar ts ls k S) (t : Bool) (x : Ln) (hx : x.ok) (N : Nat) (hN : 6 ≤ N) : callN Φ N 450 [x.l.d, x.r.d, x.rs.d, .ref k, tldD t ts] S = .ok (.bl (hold ts ls x)) S := by
  obtain ⟨l, r, rs⟩ := x
  obtain ⟨hl, hr⟩ := hx
  simp only at hl hr ⊢
  have dl := hl.sm.dp
  have dr := hr.sm.dp
  obtain ⟨n, rfl⟩ : ∃ n, N = n + 2 := ⟨N - 2, by omega⟩
  have nc := non_cmp dl dr S
  cases rs with
  | rul =>
    have rv := rule_val P hl hr S (n + 1) (by omega)
    refine call_ret P.h450 ⟨rfl, by decide⟩ ?_
    have ee := eq_empty (show Dt (.tup [.str sRule, .str sEA]) from rs_dt .rul) S
    simp [f450_holds, start, Rs.d, isTy, ee, sub0, sub1, cmp_eq (eqD_str' _ _ S), rv, hold]
    rfl
  | same =>
    refine call_ret P.h450 ⟨rfl, by decide⟩ ?_
    have ee := eq_empty (show Dt (.tup [.str sSame]) from rs_dt .same) S
    simp [f450_holds, start, Rs.d, isTy, ee, sub0, sub1, cmp_eq (eqD_str' _ _ S), re_cmp hl.dt hr.dt, hold]
  | lsame =>
    refine call_ret P.h450 ⟨rfl, by decide⟩ ?_
    simp [f450_holds, start, Rs.d, isTy, hold]
  | tld q =>
    have cv := conc_tld P (ts := ts) (S := S) t q (.ref k) (n + 1) (by omega)
    refine call_ret P.h450 ⟨rfl, by decide⟩ ?_
    have ee := eq_empty (show Dt (.tup [.str sTold, q.d]) from rs_dt (.tld q)) S
    have fin : cmpD .eq (if q.at ts.length then .tup [(q.get ts).d, Re.none.d] else .non) (.tup [l.d, r.d]) S = .ok (.bl (hold ts ls ⟨l, r, .tld q⟩)) S := by
      cases z : q.at ts.length with
      | false => simp [hold, z, nc]
      | true =>
        have dg : dp (q.get ts) := by
          cases q with
          | int i => exact (mem_tat A.tk z).sm.dp
          | bl b => cases z
          | nul => cases z
          | txt => cases z
        simp only [if_true]
        rw [pair_cmp dg none_s30.sm.dp dl dr]
        simp [hold, z]
    simp only [Rs.d] at cv
    simp [f450_holds, start, Rs.d, isTy, ee, sub0, sub1, cmp_eq (eqD_str' _ _ S), tld_non, cv, fin]
  | tur i =>
    refine hold_num P (rs_dt (.tur i)) (by decide) (by decide) (by decide) (by decide) n (by omega) (by1 P.n A.at_ (.inl rfl) i n (by omega)) ?_
    cases z : inb ls.length i with
    | false => simp [hold, z, nc]
    | true =>
      have e := mem_nth A.lk z
      simp only [if_true, giv1]
      rw [pair_cmp e.2.sm.dp e.1.sm.dp dl dr]
      simp [hold, z]
  | str i =>
    refine hold_num P (rs_dt (.str i)) (by decide) (by decide) (by decide) (by decide) n (by omega) (by1 P.n A.at_ (.inr rfl) i n (by omega)) ?_
    cases z : inb ls.length i with
    | false => simp [hold, z, nc]
    | true =>
      have e := mem_nth A.lk z
      have g : giv1 sStar (nth ls i) = .tup [(Re.star (nth ls i).l).d, (Re.star (nth ls i).r).d] := rfl
      simp only [if_true]
      rw [g, pair_cmp (dp_star e.1) (dp_star e.2) dl dr]
      simp [hold, z]
  | chn i j =>
    refine hold_num P (rs_dt (.chn i j)) (by decide) (by decide) (by decide) (by decide) n (by omega) (by2 P.n A.lk A.at_ (.inl rfl) i j n (by omega)) ?_
    cases z : (inb ls.length i && inb ls.length j) with
    | false => simp [hold, z, nc]
    | true =>
      obtain ⟨z1, z2⟩ := and2 z
      have e := mem_nth A.lk z1
      have f := mem_nth A.lk z2
      simp only [if_true, giv2]
      by_cases y : (nth ls i).r = (nth ls j).l
      · rw [if_pos y, pair_cmp e.1.sm.dp f.2.sm.dp dl dr]
        simp [hold, z, y]
      · rw [if_neg y, nc]
        simp [hold, z, y]
  | two o i j =>
    have sd : ∀ o, sTwo o ≠ [112, 97, 105, 114, 115] ∧ sTwo o ≠ sTold ∧ sTwo o ≠ sRule ∧ sTwo o ≠ sSame ∧ (sTwo o = sChained ∨ sTwo o = sOr ∨ sTwo o = sThen) := by decide
    obtain ⟨s1, s2, s3, s4, s5⟩ := sd o
    refine hold_num P (rs_dt (.two o i j)) s1 s2 s3 s4 n (by omega) (by2 P.n A.lk A.at_ s5 i j n (by omega)) ?_
    cases z : (inb ls.length i && inb ls.length j) with
    | false => simp [hold, z, nc]
    | true =>
      obtain ⟨z1, z2⟩ := and2 z
      have e := mem_nth A.lk z1
      have f := mem_nth A.lk z2
      have g : giv2 (sTwo o) (nth ls i) (nth ls j) = .tup [(mk2 o (nth ls i).l (nth ls j).l).d, (mk2 o (nth ls i).r (nth ls j).r).d] := by cases o <;> rfl
      simp only [if_true]
      rw [g, pair_cmp (dp_mk2 e.1 f.1) (dp_mk2 e.2 f.2) dl dr]
      simp [hold, z]
  | chn3 i j q =>
    exact hold_num P (rs_dt (.chn3 i j q)) (by decide) (by decide) (by decide) (by decide) n (by omega) (by3 P.n n (by omega)) nc
end SL
set_option Elab.async false
set_option linter.all false
set_option maxRecDepth 100000
set_option maxHeartbeats 2000000
/-! E5: a line holds, by the law. -/
namespace SL
open PySem
variable {Φ : Nat → Option Def}
/-- the law's words -/
theorem in_words {s : List Nat} (hs : Dt (.str s)) (S : Sto) : cmpD .notin (.str s) (.lst [.str sTurned, .str sChained, .str sOr, .str sThen, .str sStar]) S = .ok (.bl (!(decide (sTurned = s) || (decide (sChained = s) || (decide (sOr = s) || (decide (sThen = s) || decide (sStar = s))))))) S := by
  rw [cmp_notin (inD_lst hs (fun d hd => by
    simp only [List.mem_cons, List.not_mem_nil, or_false] at hd
    rcases hd with rfl | rfl | rfl | rfl | rfl <;> exact dts rfl) S)]
  simp only [toPs, toP, List.any_cons, List.any_nil, eqv_str, str_beq, Bool.or_false]
theorem in_twos {s : List Nat} (hs : Dt (.str s)) (S : Sto) : cmpD .isin (.str s) (.lst [.str sChained, .str sOr, .str sThen]) S = .ok (.bl (decide (sChained = s) || (decide (sOr = s) || decide (sThen = s)))) S := by
  rw [cmp_in (inD_lst hs (fun d hd => by
    simp only [List.mem_cons, List.not_mem_nil, or_false] at hd
    rcases hd with rfl | rfl | rfl <;> exact dts rfl) S)]
  simp only [toPs, toP, List.any_cons, List.any_nil, eqv_str, str_beq, Bool.or_false]
theorem nil_nil (S : Sto) : cmpD .eq (.tup []) (.tup []) S = .ok (.bl true) S := eq_empty (ds := []) ⟨rfl, by decide +kernel, by decide +kernel⟩ S
theorem tup_len1 (a : D) (S : Sto) : bltD .len [.tup [a]] S = .ok (.int 1) S := rfl
theorem tup_len2 (a b : D) (S : Sto) : bltD .len [.tup [a, b]] S = .ok (.int 2) S := rfl
theorem tup_len3 (a b c : D) (S : Sto) : bltD .len [.tup [a, b, c]] S = .ok (.int 3) S := rfl
theorem L_num1 (P : PhiH Φ) (i : Int) (n : Nat) (S : Sto) (N : Nat) (hN : 2 ≤ N) : callN Φ N 104 [.tup [.int i], .int n] S = .ok (.bl (inb n i)) S := by
  have := L_numbers_val P.n [.int i] n S N hN
  simpa [Nb.d, Nb.at] using this
theorem L_num2 (P : PhiH Φ) (i j : Int) (n : Nat) (S : Sto) (N : Nat) (hN : 2 ≤ N) : callN Φ N 104 [.tup [.int i, .int j], .int n] S = .ok (.bl (inb n i && inb n j)) S := by
  have := L_numbers_val P.n [.int i, .int j] n S N hN
  simpa [Nb.d, Nb.at] using this
theorem L_numk (P : PhiH Φ) (q : Nb) (n : Nat) (S : Sto) (N : Nat) (hN : 2 ≤ N) : callN Φ N 104 [.tup [q.d], .int n] S = .ok (.bl (q.at n)) S := by
  have := L_numbers_val P.n [q] n S N hN
  simpa using this
theorem re_cmp_tup {ds : List D} {a b : Re} (e : .tup ds = a.d) (ha : Dt a.d) (hb : Dt b.d) (S : Sto) : cmpD .eq (.tup ds) b.d S = .ok (.bl (decide (a = b))) S ∧ cmpD .ne (.tup ds) b.d S = .ok (.bl (!decide (a = b))) S := by
  rw [e]
  exact ⟨re_cmp ha hb S, re_cmpn ha hb S⟩
theorem add_tup1 (a b : D) (S : Sto) : binD .add (.tup [a]) (.tup [b]) S = .ok (.tup [a, b]) S := rfl
theorem add_tup2 (a b c : D) (S : Sto) : binD .add (.tup [a]) (.tup [b, c]) S = .ok (.tup [a, b, c]) S := rfl
theorem tuple_lst (ds : List D) (S : Sto) : bltD .tuple [.lst ds] S = .ok (.tup ds) S := rfl
theorem L_holds_val (P : PhiH Φ) {ts : List Re} {ls : List Ln} {k : Nat} {S : Sto} (A : Ar ts ls k S) (t : Bool) (x : Ln) (hx : x.ok) (N : Nat) (hN : 6 ≤ N) : callN Φ N 454 [x.l.d, x.r.d, x.rs.d, .ref k, tldD t ts] S = .ok (.bl (hold ts ls x)) S := by
  obtain ⟨l, r, rs⟩ := x
  obtain ⟨hl, hr⟩ := hx
  simp only at hl hr ⊢
  have dl := hl.sm.dp
  have dr := hr.sm.dp
  obtain ⟨n, rfl⟩ : ∃ n, N = n + 1 := ⟨N - 1, by omega⟩
  refine call_ret P.h454 ⟨rfl, by decide⟩ ?_
  have ln := len_ref A.at_
  rw [List.length_map] at ln
  cases rs with
  | rul =>
    have rv := L_rule_val P hl hr S n (by omega)
    have ee := eq_empty (show Dt (.tup [.str sRule, .str sEA]) from rs_dt .rul) S
    simp [f454_L_holds, start, Rs.d, isTy, ee, sub0, sub1, slc1, parD, setAll, cmp_eq (eqD_str' _ _ S), rv, hold]
    rfl
  | same =>
    have ee := eq_empty (show Dt (.tup [.str sSame]) from rs_dt .same) S
    simp [f454_L_holds, start, Rs.d, isTy, ee, sub0, sub1, slc1, parD, setAll, cmp_eq (eqD_str' _ _ S), nil_nil, re_cmp hl.dt hr.dt, hold]
  | lsame =>
    simp [f454_L_holds, start, Rs.d, isTy, hold]
  | tld q =>
    have ee := eq_empty (show Dt (.tup [.str sTold, q.d]) from rs_dt (.tld q)) S
    have nv := L_numk P q ts.length S n (by omega)
    have rn : cmpD .eq r.d (.tup [.str [110, 111, 110, 101]]) S = .ok (.bl (decide (r = .none))) S := re_cmp (q := .none) hr.dt none_s30.dt S
    cases z : q.at ts.length with
    | false =>
      rw [z] at nv
      simp [f454_L_holds, start, Rs.d, isTy, ee, sub0, sub1, slc1, parD, setAll, cmp_eq (eqD_str' _ _ S), tld_len, nv, hold, z]
    | true =>
      rw [z] at nv
      cases q with
      | int i =>
        have s := tld_sub (t := t) (ts := ts) (i := i) z S
        have ce := re_cmp (mem_tat A.tk z).dt hl.dt S
        simp only [Nb.d] at ee nv
        by_cases y : tat ts i = l
        · rw [decide_eq_true y] at ce
          simp [f454_L_holds, start, Rs.d, Nb.d, isTy, ee, sub0, sub1, slc1, parD, setAll, cmp_eq (eqD_str' _ _ S), tld_len, nv, s, ce, rn, hold, z, Nb.get, if_pos y]
          simp [y, eq_comm]
        · rw [decide_eq_false y] at ce
          simp [f454_L_holds, start, Rs.d, Nb.d, isTy, ee, sub0, sub1, slc1, parD, setAll, cmp_eq (eqD_str' _ _ S), tld_len, nv, s, ce, rn, hold, z, Nb.get]
          simp [y]
      | bl b => cases z
      | nul => cases z
      | txt => cases z
  | tur i =>
    have ee := eq_empty (show Dt (.tup [.str sTurned, .int i]) from rs_dt (.tur i)) S
    have nv := L_num1 P i ls.length S n (by omega)
    have w1 := in_words (s := sTurned) (dts rfl) S
    have w2 := in_twos (s := sTurned) (dts rfl) S
    cases z : inb ls.length i with
    | false =>
      rw [z] at nv
      simp [f454_L_holds, start, Rs.d, isTy, ee, sub0, sub1, slc1, parD, setAll, cmp_eq (eqD_str' _ _ S), nv, ln, hold, z, w1, w2, pick0, pick1]
    | true =>
      rw [z] at nv
      have e := mem_nth A.lk z
      have sb := sub_ls A.at_ z
      rw [show (nth ls i).d = .tup [(nth ls i).l.d, (nth ls i).r.d, (nth ls i).rs.d] from rfl] at sb
      have ce := pair_cmp e.1.sm.dp e.2.sm.dp dr dl S
      simp [f454_L_holds, start, Rs.d, isTy, ee, sub0, sub1, slc1, parD, setAll, cmp_eq (eqD_str' _ _ S), nv, ln, hold, z, w1, w2, pick0, pick1, compD, compL, chk_nil, stepD, wipe, sb, sub_lst0, ce]
      rw [Bool.and_comm]
  | str i =>
    have ee := eq_empty (show Dt (.tup [.str sStar, .int i]) from rs_dt (.str i)) S
    have nv := L_num1 P i ls.length S n (by omega)
    have w1 := in_words (s := sStar) (dts rfl) S
    have w2 := in_twos (s := sStar) (dts rfl) S
    cases z : inb ls.length i with
    | false =>
      rw [z] at nv
      simp [f454_L_holds, start, Rs.d, isTy, ee, sub0, sub1, slc1, parD, setAll, cmp_eq (eqD_str' _ _ S), nv, ln, hold, z, w1, w2, pick0, pick1]
    | true =>
      rw [z] at nv
      have e := mem_nth A.lk z
      have sb := sub_ls A.at_ z
      rw [show (nth ls i).d = .tup [(nth ls i).l.d, (nth ls i).r.d, (nth ls i).rs.d] from rfl] at sb
      have c1 := (re_cmp_tup (ds := [.str sStar, (nth ls i).l.d]) (a := .star (nth ls i).l) rfl (dp_star e.1).1 hl.dt S).2
      have c2 := (re_cmp_tup (ds := [.str sStar, (nth ls i).r.d]) (a := .star (nth ls i).r) rfl (dp_star e.2).1 hr.dt S).1
      by_cases y : Re.star (nth ls i).l = l
      · rw [decide_eq_true y] at c1
        simp [f454_L_holds, start, Rs.d, isTy, ee, sub0, sub1, slc1, parD, setAll, cmp_eq (eqD_str' _ _ S), nv, ln, hold, z, w1, w2, pick0, pick1, compD, compL, chk_nil, stepD, wipe, sb, sub_lst0, tuple_lst, add_tup1, c1, c2, decide_eq_true y]
      · rw [decide_eq_false y] at c1
        simp [f454_L_holds, start, Rs.d, isTy, ee, sub0, sub1, slc1, parD, setAll, cmp_eq (eqD_str' _ _ S), nv, ln, hold, z, w1, w2, pick0, pick1, compD, compL, chk_nil, stepD, wipe, sb, sub_lst0, tuple_lst, add_tup1, c1, c2, decide_eq_false y]
  | chn3 i j q =>
    have ee := eq_empty (show Dt (.tup [.str sChained, .int i, .int j, .int q]) from rs_dt (.chn3 i j q)) S
    have w1 := in_words (s := sChained) (dts rfl) S
    have w2 := in_twos (s := sChained) (dts rfl) S
    simp [f454_L_holds, start, Rs.d, isTy, ee, sub0, sub1, slc1, parD, setAll, cmp_eq (eqD_str' _ _ S), ln, hold, w1, w2, pick0, pick1]
  | chn i j =>
    have ee := eq_empty (show Dt (.tup [.str sChained, .int i, .int j]) from rs_dt (.chn i j)) S
    have nv := L_num2 P i j ls.length S n (by omega)
    have w1 := in_words (s := sChained) (dts rfl) S
    have w2 := in_twos (s := sChained) (dts rfl) S
    cases z : (inb ls.length i && inb ls.length j) with
    | false =>
      rw [z] at nv
      simp [f454_L_holds, start, Rs.d, isTy, ee, sub0, sub1, slc1, parD, setAll, cmp_eq (eqD_str' _ _ S), nv, ln, hold, z, w1, w2, pick0, pick1]
    | true =>
      rw [z] at nv
      obtain ⟨z1, z2⟩ := and2 z
      have e := mem_nth A.lk z1
      have f := mem_nth A.lk z2
      have sb := sub_ls A.at_ z1
      have sc := sub_ls A.at_ z2
      rw [show (nth ls i).d = .tup [(nth ls i).l.d, (nth ls i).r.d, (nth ls i).rs.d] from rfl] at sb
      rw [show (nth ls j).d = .tup [(nth ls j).l.d, (nth ls j).r.d, (nth ls j).rs.d] from rfl] at sc
      have c1 := re_cmp e.1.dt hl.dt S
      have c2 := re_cmp e.2.dt f.1.dt S
      have c3 := re_cmp f.2.dt hr.dt S
      have fin : hold ts ls ⟨l, r, .chn i j⟩ = (decide ((nth ls i).l = l) && (decide ((nth ls i).r = (nth ls j).l) && decide ((nth ls j).r = r))) := by
        simp only [hold, z, Bool.true_and]
        cases decide ((nth ls i).l = l) <;> cases decide ((nth ls i).r = (nth ls j).l) <;> rfl
      rw [fin]
      generalize decide ((nth ls i).l = l) = b1 at c1 ⊢
      generalize decide ((nth ls i).r = (nth ls j).l) = b2 at c2 ⊢
      generalize decide ((nth ls j).r = r) = b3 at c3 ⊢
      cases b1 <;> cases b2 <;> simp [f454_L_holds, start, Rs.d, isTy, ee, sub0, sub1, slc1, parD, setAll, cmp_eq (eqD_str' _ _ S), nv, ln, w1, w2, pick0, pick1, compD, compL, chk_nil, stepD, wipe, sb, sc, sub_lst0, c1, c2, c3]
  | two o i j =>
    have nv := L_num2 P i j ls.length S n (by omega)
    cases z : (inb ls.length i && inb ls.length j) with
    | false =>
      rw [z] at nv
      cases o with
      | true =>
        have ee := eq_empty (show Dt (.tup [.str sOr, .int i, .int j]) from rs_dt (.two true i j)) S
        rw [show (Rs.two true i j).d = .tup [.str sOr, .int i, .int j] from rfl]
        have w1 := in_words (s := sOr) (dts rfl) S
        have w2 := in_twos (s := sOr) (dts rfl) S
        simp [f454_L_holds, start, Rs.d, isTy, ee, sub0, sub1, slc1, parD, setAll, cmp_eq (eqD_str' _ _ S), nv, ln, hold, z, w1, w2, pick0, pick1]
      | false =>
        have ee := eq_empty (show Dt (.tup [.str sThen, .int i, .int j]) from rs_dt (.two false i j)) S
        rw [show (Rs.two false i j).d = .tup [.str sThen, .int i, .int j] from rfl]
        have w1 := in_words (s := sThen) (dts rfl) S
        have w2 := in_twos (s := sThen) (dts rfl) S
        simp [f454_L_holds, start, Rs.d, isTy, ee, sub0, sub1, slc1, parD, setAll, cmp_eq (eqD_str' _ _ S), nv, ln, hold, z, w1, w2, pick0, pick1]
    | true =>
      rw [z] at nv
      obtain ⟨z1, z2⟩ := and2 z
      have e := mem_nth A.lk z1
      have f := mem_nth A.lk z2
      have sb := sub_ls A.at_ z1
      have sc := sub_ls A.at_ z2
      rw [show (nth ls i).d = .tup [(nth ls i).l.d, (nth ls i).r.d, (nth ls i).rs.d] from rfl] at sb
      rw [show (nth ls j).d = .tup [(nth ls j).l.d, (nth ls j).r.d, (nth ls j).rs.d] from rfl] at sc
      have fin : hold ts ls ⟨l, r, .two o i j⟩ = (decide (mk2 o (nth ls i).l (nth ls j).l = l) && decide (mk2 o (nth ls i).r (nth ls j).r = r)) := by
        simp only [hold, z, Bool.true_and]
      rw [fin]
      have eo : ∀ o a b, D.tup [.str (sTwo o), Re.d a, Re.d b] = (mk2 o a b).d := fun o a b => by cases o <;> rfl
      have c1 := (re_cmp_tup (eo o (nth ls i).l (nth ls j).l) (dp_mk2 e.1 f.1).1 hl.dt S).2
      have c2 := (re_cmp_tup (eo o (nth ls i).r (nth ls j).r) (dp_mk2 e.2 f.2).1 hr.dt S).1
      generalize decide (mk2 o (nth ls i).l (nth ls j).l = l) = b1 at c1 ⊢
      generalize decide (mk2 o (nth ls i).r (nth ls j).r = r) = b2 at c2 ⊢
      cases o with
      | true =>
        have c1 : cmpD .ne (.tup [.str sOr, (nth ls i).l.d, (nth ls j).l.d]) l.d S = .ok (.bl (!b1)) S := c1
        have c2 : cmpD .eq (.tup [.str sOr, (nth ls i).r.d, (nth ls j).r.d]) r.d S = .ok (.bl b2) S := c2
        have ee := eq_empty (show Dt (.tup [.str sOr, .int i, .int j]) from rs_dt (.two true i j)) S
        rw [show (Rs.two true i j).d = .tup [.str sOr, .int i, .int j] from rfl]
        have w1 := in_words (s := sOr) (dts rfl) S
        have w2 := in_twos (s := sOr) (dts rfl) S
        cases b1 <;> simp [f454_L_holds, start, Rs.d, isTy, ee, sub0, sub1, slc1, parD, setAll, cmp_eq (eqD_str' _ _ S), nv, ln, w1, w2, pick0, pick1, compD, compL, chk_nil, stepD, wipe, sb, sc, sub_lst0, tuple_lst, add_tup2, c1, c2]
      | false =>
        have c1 : cmpD .ne (.tup [.str sThen, (nth ls i).l.d, (nth ls j).l.d]) l.d S = .ok (.bl (!b1)) S := c1
        have c2 : cmpD .eq (.tup [.str sThen, (nth ls i).r.d, (nth ls j).r.d]) r.d S = .ok (.bl b2) S := c2
        have ee := eq_empty (show Dt (.tup [.str sThen, .int i, .int j]) from rs_dt (.two false i j)) S
        rw [show (Rs.two false i j).d = .tup [.str sThen, .int i, .int j] from rfl]
        have w1 := in_words (s := sThen) (dts rfl) S
        have w2 := in_twos (s := sThen) (dts rfl) S
        cases b1 <;> simp [f454_L_holds, start, Rs.d, isTy, ee, sub0, sub1, slc1, parD, setAll, cmp_eq (eqD_str' _ _ S), nv, ln, w1, w2, pick0, pick1, compD, compL, chk_nil, stepD, wipe, sb, sc, sub_lst0, tuple_lst, add_tup2, c1, c2]
end SL
set_option Elab.async false
set_option linter.all false
set_option maxRecDepth 100000
set_option maxHeartbeats 2000000
/-! E6: lists of lines. -/
namespace SL
open PySem
variable {Φ : Nat → Option Def}
def bodyA : Ss := .cons (.ifs (.or (.not (.isi (.var 3) [.tup])) (.cmp .ne (.blt .len (.cons (.var 3) .nil)) (.cst (.int 3)))) (.cons (.ret (.cst (.bl false))) .nil) .nil) (.cons (.asg (.tup [4, 5, 6]) (.var 3)) (.cons (.ifs (.or (.not (.call 2 (.cons (.var 4) .nil))) (.or (.not (.call 2 (.cons (.var 5) .nil))) (.not (.call 450 (.cons (.var 4) (.cons (.var 5) (.cons (.var 6) (.cons (.var 2) (.cons (.var 1) .nil))))))))) (.cons (.ret (.cst (.bl false))) .nil) .nil) (.cons (.exp (.mth .append (.var 2) (.cons (.var 3) .nil))) .nil)))
def bodyB : Ss := .cons (.ifs (.or (.not (.isi (.var 5) [.tup])) (.cmp .ne (.blt .len (.cons (.var 5) .nil)) (.cst (.int 3)))) (.cons (.ret (.cst (.bl false))) .nil) .nil) (.cons (.ifs (.or (.not (.call 22 (.cons (.sub (.var 5) (.cst (.int 0))) .nil))) (.not (.call 22 (.cons (.sub (.var 5) (.cst (.int 1))) .nil)))) (.cons (.ret (.cst (.bl false))) .nil) .nil) (.cons (.ifs (.not (.call 454 (.cons (.sub (.var 5) (.cst (.int 0))) (.cons (.sub (.var 5) (.cst (.int 1))) (.cons (.sub (.var 5) (.cst (.int 2))) (.cons (.var 4) (.cons (.var 3) .nil))))))) (.cons (.ret (.cst (.bl false))) .nil) .nil) (.cons (.exp (.mth .append (.var 4) (.cons (.var 5) .nil))) .nil)))
def allH (ts : List Re) : List Ln → List Ln → Bool
  | _, [] => true
  | pre, x :: xs => hold ts pre x && allH ts (pre ++ [x]) xs
structure Ln.fit (x : Ln) : Prop where
  ok : x.ok
  wl : (toP x.l.d).weight ≤ sz
  wr : (toP x.r.d).weight ≤ sz
structure PhiL (Φ : Nat → Option Def) : Prop where
  h : PhiH Φ
  p2 : Phi2 Φ
  p3 : Phi3 Φ
  h3 : Φ 3 = some f3_look_at_pattern
  h51 : Φ 51 = some f51_look_at_told
  h451 : Φ 451 = some f451_are_lines
  h452 : Φ 452 = some f452_is_lines
  h455 : Φ 455 = some f455_L_lines
  h456 : Φ 456 = some f456_L_good
theorem rp_val (P : PhiL Φ) {r : Re} (h : r.s30) (w : (toP r.d).weight ≤ sz) (N : Nat) (hN : 32 ≤ N) (S : Sto) : callN Φ N 2 [r.d] S = .ok (.bl true) S ∧ callN Φ N 22 [r.d] S = .ok (.bl true) S := by
  obtain ⟨n, rfl⟩ : ∃ n, N = n + 30 + 2 := ⟨N - 32, by omega⟩
  have d : (toP r.d).depth ≤ 30 := by rw [Re.depth_eq]; exact h.2
  have := right_pattern P.p2 30 r.d h.dt d w n S
  have t := law_pattern P.p3 30 r.d h.dt d w n S
  rw [Re.isP r h.1] at this t
  exact ⟨this, t⟩
theorem app_last {S0 : Sto} {xs : List D} {d : D} (h : xs.length < 1000) : mthD .append (.ref S0.length) [d] (S0 ++ [.lst xs]) = .ok .non (S0 ++ [.lst (xs ++ [d])]) := by
  have e : (S0 ++ [Ob.lst xs])[S0.length]? = some (.lst xs) := by simp
  have hs : xs.length < sz := by show _ < 16777216; omega
  simp only [mthD, e, hs, if_true]
  congr 1
  rw [List.set_append_right _ _ (Nat.le_refl _)]
  simp
theorem at_last (S0 : Sto) (o : Ob) : (S0 ++ [o])[S0.length]? = some o := by simp
theorem recv_last (S0 : Sto) (xs : List D) : recv .append (S0 ++ [.lst xs]) (.ref S0.length) = true := by simp [recv]
theorem turnA (P : PhiL Φ) {ts : List Re} (tk : ∀ x ∈ ts, x.s30) (t : Bool) {pre : List Ln} (hp : ∀ x ∈ pre, x.ok) {S0 : Sto} {x : Ln} (hx : x.fit) (hl : pre.length < 1000) (N : Nat) (hN : 32 ≤ N) (th : D) (a b c d : Option D) :
    forB (.name 3) (evSs (callN Φ N) bodyA) x.d [some th, some (tldD t ts), some (.ref S0.length), a, b, c, d] (S0 ++ [.lst (pre.map Ln.d)]) = if hold ts pre x then .nx [some th, some (tldD t ts), some (.ref S0.length), some x.d, some x.l.d, some x.r.d, some x.rs.d] (S0 ++ [.lst ((pre ++ [x]).map Ln.d)]) else .ret (.bl false) (S0 ++ [.lst (pre.map Ln.d)]) := by
  have A : Ar ts pre S0.length (S0 ++ [.lst (pre.map Ln.d)]) := ⟨tk, hp, at_last _ _⟩
  have hv := holds_val P.h A t x hx.ok N (by omega)
  have r1 := (rp_val P hx.ok.1 hx.wl N hN (S0 ++ [.lst (pre.map Ln.d)])).1
  have r2 := (rp_val P hx.ok.2 hx.wr N hN (S0 ++ [.lst (pre.map Ln.d)])).1
  have ap := app_last (S0 := S0) (xs := pre.map Ln.d) (d := x.d) (by rw [List.length_map]; exact hl)
  have rc := recv_last S0 (pre.map Ln.d)
  have xd : x.d = .tup [x.l.d, x.r.d, x.rs.d] := rfl
  rw [xd] at ap ⊢
  cases z : hold ts pre x with
  | false =>
    rw [z] at hv
    simp [forB, bodyA, isTy, asgD, bindTg, seqOf, setAll, r1, r2, hv]
  | true =>
    rw [z] at hv
    simp [forB, bodyA, isTy, asgD, bindTg, seqOf, setAll, r1, r2, hv, mthX, rc, ap, xd]
theorem turnB (P : PhiL Φ) {ts : List Re} (tk : ∀ x ∈ ts, x.s30) (t : Bool) {pre : List Ln} (hp : ∀ x ∈ pre, x.ok) {S0 : Sto} {x : Ln} (hx : x.fit) (hl : pre.length < 1000) (N : Nat) (hN : 32 ≤ N) (th p q : D) (a : Option D) :
    forB (.name 5) (evSs (callN Φ N) bodyB) x.d [some th, some p, some q, some (tldD t ts), some (.ref S0.length), a] (S0 ++ [.lst (pre.map Ln.d)]) = if hold ts pre x then .nx [some th, some p, some q, some (tldD t ts), some (.ref S0.length), some x.d] (S0 ++ [.lst ((pre ++ [x]).map Ln.d)]) else .ret (.bl false) (S0 ++ [.lst (pre.map Ln.d)]) := by
  have A : Ar ts pre S0.length (S0 ++ [.lst (pre.map Ln.d)]) := ⟨tk, hp, at_last _ _⟩
  have hv := L_holds_val P.h A t x hx.ok N (by omega)
  have r1 := (rp_val P hx.ok.1 hx.wl N hN (S0 ++ [.lst (pre.map Ln.d)])).2
  have r2 := (rp_val P hx.ok.2 hx.wr N hN (S0 ++ [.lst (pre.map Ln.d)])).2
  have ap := app_last (S0 := S0) (xs := pre.map Ln.d) (d := x.d) (by rw [List.length_map]; exact hl)
  have rc := recv_last S0 (pre.map Ln.d)
  have xd : x.d = .tup [x.l.d, x.r.d, x.rs.d] := rfl
  rw [xd] at ap ⊢
  cases z : hold ts pre x with
  | false =>
    rw [z] at hv
    simp [forB, bodyB, isTy, sub0, sub1, sub2, r1, r2, hv]
  | true =>
    rw [z] at hv
    simp [forB, bodyB, isTy, sub0, sub1, sub2, r1, r2, hv, mthX, rc, ap, xd]
theorem loopA (P : PhiL Φ) {ts : List Re} (tk : ∀ x ∈ ts, x.s30) (t : Bool) (N : Nat) (hN : 32 ≤ N) (th : D) (S0 : Sto) : ∀ (xs pre : List Ln) (a b c d : Option D), (∀ x ∈ pre, x.ok) → (∀ x ∈ xs, x.fit) → pre.length + xs.length ≤ 1000 →
    ∃ f' o, forL [] (forB (.name 3) (evSs (callN Φ N) bodyA)) (xs.map Ln.d) [some th, some (tldD t ts), some (.ref S0.length), a, b, c, d] (S0 ++ [.lst (pre.map Ln.d)]) = if allH ts pre xs then .nx f' (S0 ++ [o]) else .ret (.bl false) (S0 ++ [o])
  | [], pre, a, b, c, d, _, _, _ => ⟨_, _, by unfold forL; rw [List.map_nil]; simp [chk_nil, allH]; exact ⟨rfl, rfl⟩⟩
  | x :: xs, pre, a, b, c, d, hp, hx, hl => by
    have tn := turnA P tk t hp (S0 := S0) (hx x List.mem_cons_self) (by simp only [List.length_cons] at hl; omega) N hN th a b c d
    rw [List.map_cons]
    unfold forL
    rw [if_pos (chk_nil _), tn]
    cases z : hold ts pre x with
    | false => exact ⟨[], _, by simp [allH, z]; rfl⟩
    | true =>
      obtain ⟨f', o, ih⟩ := loopA P tk t N hN th S0 xs (pre ++ [x]) (some x.d) (some x.l.d) (some x.r.d) (some x.rs.d) (fun y hy => by
        rcases List.mem_append.mp hy with hy | hy
        · exact hp y hy
        · rw [List.mem_singleton.mp hy]; exact (hx x List.mem_cons_self).ok) (fun y hy => hx y (List.mem_cons_of_mem _ hy)) (by simp only [List.length_append, List.length_cons, List.length_nil] at hl ⊢; omega)
      refine ⟨f', o, ?_⟩
      simp only [if_true, allH, z, Bool.true_and]
      exact ih
theorem loopB (P : PhiL Φ) {ts : List Re} (tk : ∀ x ∈ ts, x.s30) (t : Bool) (N : Nat) (hN : 32 ≤ N) (th p q : D) (S0 : Sto) : ∀ (xs pre : List Ln) (a : Option D), (∀ x ∈ pre, x.ok) → (∀ x ∈ xs, x.fit) → pre.length + xs.length ≤ 1000 →
    ∃ a' o, forL [] (forB (.name 5) (evSs (callN Φ N) bodyB)) (xs.map Ln.d) [some th, some p, some q, some (tldD t ts), some (.ref S0.length), a] (S0 ++ [.lst (pre.map Ln.d)]) = if allH ts pre xs then .nx [some th, some p, some q, some (tldD t ts), some (.ref S0.length), a'] (S0 ++ [.lst ((pre ++ xs).map Ln.d)]) else .ret (.bl false) (S0 ++ [o])
  | [], pre, a, _, _, _ => ⟨a, .lst [], by unfold forL; rw [List.map_nil]; simp [chk_nil, allH]⟩
  | x :: xs, pre, a, hp, hx, hl => by
    have tn := turnB P tk t hp (S0 := S0) (hx x List.mem_cons_self) (by simp only [List.length_cons] at hl; omega) N hN th p q a
    rw [List.map_cons]
    unfold forL
    rw [if_pos (chk_nil _), tn]
    cases z : hold ts pre x with
    | false => exact ⟨none, _, by simp [allH, z]; rfl⟩
    | true =>
      obtain ⟨f', o, ih⟩ := loopB P tk t N hN th p q S0 xs (pre ++ [x]) (some x.d) (fun y hy => by
        rcases List.mem_append.mp hy with hy | hy
        · exact hp y hy
        · rw [List.mem_singleton.mp hy]; exact (hx x List.mem_cons_self).ok) (fun y hy => hx y (List.mem_cons_of_mem _ hy)) (by simp only [List.length_append, List.length_cons, List.length_nil] at hl ⊢; omega)
      refine ⟨f', o, ?_⟩
      simp only [if_true, allH, z, Bool.true_and]
      rw [ih, List.append_assoc]
      rfl
end SL
set_option Elab.async false
set_option linter.all false
set_option maxRecDepth 100000
set_option maxHeartbeats 2000000
/-! E7: what the program and the law say of a list of lines. -/
namespace SL
open PySem
variable {Φ : Nat → Option Def}
theorem gc_bl {S T : Sto} (b : Bool) : gc S (.bl b) (S ++ T) = S := by
  unfold gc
  rw [if_pos ⟨⟨1, by unfold pureD; trivial⟩, List.prefix_append _ _⟩]
/-- lines with all that is needed of them -/
structure Lot (t : Bool) (ts : List Re) (xs : List Ln) : Prop where
  fit : ∀ x ∈ xs, x.fit
  ne : xs ≠ []
  len : xs.length ≤ 1000
  tk : ∀ x ∈ ts, x.s30
  tw : ∀ x ∈ ts, (toP x.d).weight ≤ sz
  sm : Sm 20 (.lst [.lst (xs.map Ln.d), tldD t ts])
  dt : Dt (.lst (xs.map Ln.d))
theorem body451 : f451_are_lines.body = .cons (.ifs (.or (.not (.isi (.var 0) [.lst])) (.cmp .eq (.var 0) (.lst .nil))) (.cons (.ret (.cst (.bl false))) .nil) .nil) (.cons (.asg (.name 2) (.newL .nil)) (.cons (.fors (.name 3) (.val (.var 0)) bodyA) (.cons (.ret (.cst (.bl true))) .nil))) := rfl
theorem body455 : f455_L_lines.body = .cons (.ifs (.or (.not (.isi (.var 0) [.lst])) (.cmp .eq (.var 0) (.lst .nil))) (.cons (.ret (.cst (.bl false))) .nil) .nil) (.cons (.asg (.name 4) (.newL .nil)) (.cons (.fors (.name 5) (.val (.var 0)) bodyB) (.cons (.ret (.and (.cmp .eq (.sub (.sub (.var 4) (.neg (.cst (.int 1)))) (.cst (.int 0))) (.var 1)) (.cmp .eq (.sub (.sub (.var 4) (.neg (.cst (.int 1)))) (.cst (.int 1))) (.var 2)))) .nil))) := rfl
theorem are_val (P : PhiL Φ) {t : Bool} {ts : List Re} {xs : List Ln} (L : Lot t ts xs) (N : Nat) (hN : 33 ≤ N) (S : Sto) : callN Φ N 451 [.lst (xs.map Ln.d), tldD t ts] S = .ok (.bl (allH ts [] xs)) S := by
  obtain ⟨n, rfl, hn⟩ := pre_pos (k := 32) hN
  have en := eq_nil L.dt S
  have ne : (xs.map Ln.d).isEmpty = false := by cases xs with | nil => exact absurd rfl L.ne | cons a b => rfl
  rw [ne] at en
  obtain ⟨f', o, lp⟩ := loopA P L.tk t n hn (.lst (xs.map Ln.d)) S xs [] none none none none (fun x hx => by cases hx) L.fit (by have := L.len; simp only [List.length_nil]; omega)
  rw [List.map_nil] at lp
  have st : start f451_are_lines [.lst (xs.map Ln.d), tldD t ts] = [some (.lst (xs.map Ln.d)), some (tldD t ts), none, none, none, none, none] := rfl
  have go : ∃ T, evSs (callN Φ n) f451_are_lines.body (start f451_are_lines [.lst (xs.map Ln.d), tldD t ts]) S = .ret (.bl (allH ts [] xs)) (S ++ T) := by
    refine ⟨[o], ?_⟩
    rw [body451, st]
    cases z : allH ts [] xs with
    | false =>
      rw [z] at lp
      simp [isTy, en, newD, lp]
    | true =>
      rw [z] at lp
      simp [isTy, en, newD, lp]
  obtain ⟨T, go⟩ := go
  rw [call_ret' P.h451 ⟨rfl, by decide⟩ go, gc_bl]
def lastL (xs : List Ln) : Ln := xs.getLastD ⟨.none, .none, .same⟩
theorem last_mem {xs : List Ln} (h : xs ≠ []) : lastL xs ∈ xs ∧ ∃ ys, xs = ys ++ [lastL xs] := by
  induction xs with
  | nil => exact absurd rfl h
  | cons a r ih =>
    cases r with
    | nil => exact ⟨List.mem_cons_self, [], rfl⟩
    | cons b r =>
      obtain ⟨h1, ys, e⟩ := ih (by simp)
      have q : lastL (a :: b :: r) = lastL (b :: r) := by simp [lastL]
      rw [q]
      exact ⟨List.mem_cons_of_mem _ h1, a :: ys, by rw [List.cons_append, ← e]⟩
theorem place_last (n : Nat) : placeOf (-1) (n + 1) = some n := by
  unfold placeOf
  rw [if_neg (by decide), if_pos (by omega)]
  congr 1
  omega
theorem sub_last {xs : List Ln} (h : xs ≠ []) (S : Sto) : subD (.lst (xs.map Ln.d)) (.int (-1)) S = .ok (lastL xs).d S := by
  obtain ⟨_, ys, e⟩ := last_mem h
  rw [e]
  generalize lastL xs = x
  have : lastL (ys ++ [x]) = x := by simp [lastL]
  rw [this]
  simp [subD, seqOf, items, place_last]
theorem sub_lastr {xs : List Ln} {k : Nat} (h : xs ≠ []) {S : Sto} (hk : S[k]? = some (.lst (xs.map Ln.d))) : subD (.ref k) (.int (-1)) S = .ok (lastL xs).d S := by
  have e := sub_last h S
  simp only [subD, seqOf, items, hk] at e ⊢
  exact e
def ends (xs : List Ln) (p q : Re) : Bool := decide ((lastL xs).l = p) && decide ((lastL xs).r = q)
theorem look_val (P : PhiL Φ) {r : Re} (h : r.s30) (w : (toP r.d).weight ≤ sz) (N : Nat) (hN : 33 ≤ N) (S : Sto) : callN Φ N 3 [r.d] S = .ok .non S := by
  obtain ⟨n, rfl, hn⟩ := pre_pos (k := 32) hN
  have rv := (rp_val P h w n hn S).1
  rw [call_of P.h3 n _ S ⟨rfl, by decide⟩]
  have go : evSs (callN Φ n) f3_look_at_pattern.body (start f3_look_at_pattern [r.d]) S = .nx [some r.d] S := by simp [f3_look_at_pattern, start, rv]
  rw [go]
  simp [gc_self]
theorem tlook_val (P : PhiL Φ) {t : Bool} {ts : List Re} (tk : ∀ x ∈ ts, x.s30) (tw : ∀ x ∈ ts, (toP x.d).weight ≤ sz) (N : Nat) (hN : 33 ≤ N) (S : Sto) : callN Φ N 51 [tldD t ts] S = .ok .non S := by
  obtain ⟨n, rfl, hn⟩ := pre_pos (k := 32) hN
  rw [call_of P.h51 n _ S ⟨rfl, by decide⟩]
  have cm : ∀ a, compD (.name 1) (evO (callN Φ n) .no) (evE (callN Φ n) (.call 2 (.cons (.var 1) .nil))) [1] [a, none] ⟨[], ts.map Re.d⟩ S = .ok (.lst ((ts.map Re.d).map fun _ => .bl true)) S := fun a => compD_map (fun _ => .bl true) fun d hd => by
    obtain ⟨r, hr, rfl⟩ := List.mem_map.mp hd
    exact step_no rfl (by simp [wipe]; exact (rp_val P (tk r hr) (tw r hr) n hn S).1)
  have al := all_bl (fun _ => true) (ts.map Re.d) S
  have at' : ((ts.map Re.d).all fun _ => true) = true := by simp
  rw [at'] at al
  have go : evSs (callN Φ n) f51_look_at_told.body (start f51_look_at_told [tldD t ts]) S = .nx [some (tldD t ts), none] S := by
    cases t
    · simp only [f51_look_at_told, start, tldD]
      simp [isiD, isTys, isTy]
      simp only [cm, Out.ok_bind, al, notD_bl, Bool.not_true, Out.so_ok, ifD_false, evSs_nil, thenS_nx]
    · simp only [f51_look_at_told, start, tldD]
      simp [isiD, isTys, isTy]
      simp only [cm, Out.ok_bind, al, notD_bl, Bool.not_true, Out.so_ok, ifD_false, evSs_nil, thenS_nx]
  rw [go]
  simp [gc_self]
theorem is_val (P : PhiL Φ) {t : Bool} {ts : List Re} {xs : List Ln} (L : Lot t ts xs) {p q : Re} (hp : p.s30) (hq : q.s30) (wp : (toP p.d).weight ≤ sz) (wq : (toP q.d).weight ≤ sz) (N : Nat) (hN : 34 ≤ N) (S : Sto) : callN Φ N 452 [.lst (xs.map Ln.d), p.d, q.d, tldD t ts] S = .ok (.bl (allH ts [] xs && ends xs p q)) S := by
  obtain ⟨n, rfl, hn⟩ := pre_pos (k := 33) hN
  have l1 := look_val P hp wp n hn S
  have l2 := look_val P hq wq n hn S
  have l3 := tlook_val P (t := t) L.tk L.tw n hn S
  have av := are_val P L n hn S
  have sl := sub_last L.ne S
  have lm := L.fit _ (last_mem L.ne).1
  have ce := pair_cmp lm.ok.1.sm.dp lm.ok.2.sm.dp hp.sm.dp hq.sm.dp S
  rw [show (lastL xs).d = .tup [(lastL xs).l.d, (lastL xs).r.d, (lastL xs).rs.d] from rfl] at sl
  refine call_ret P.h452 ⟨rfl, by decide⟩ ?_
  cases z : allH ts [] xs with
  | false =>
    rw [z] at av
    simp [f452_is_lines, start, l1, l2, l3, av]
  | true =>
    rw [z] at av
    simp [f452_is_lines, start, l1, l2, l3, av, sl, slc2, ce, ends]
theorem L_is_val (P : PhiL Φ) {t : Bool} {ts : List Re} {xs : List Ln} (L : Lot t ts xs) {p q : Re} (hp : p.s30) (hq : q.s30) (N : Nat) (hN : 34 ≤ N) (S : Sto) : callN Φ N 455 [.lst (xs.map Ln.d), p.d, q.d, tldD t ts] S = .ok (.bl (allH ts [] xs && ends xs p q)) S := by
  obtain ⟨n, rfl, hn⟩ := pre_pos (k := 33) hN
  have en := eq_nil L.dt S
  have ne : (xs.map Ln.d).isEmpty = false := by cases xs with | nil => exact absurd rfl L.ne | cons a b => rfl
  rw [ne] at en
  obtain ⟨a', o, lp⟩ := loopB P L.tk t n (by omega) (.lst (xs.map Ln.d)) p.d q.d S xs [] none (fun x hx => by cases hx) L.fit (by have := L.len; simp only [List.length_nil]; omega)
  rw [List.map_nil, List.nil_append] at lp
  have st : start f455_L_lines [.lst (xs.map Ln.d), p.d, q.d, tldD t ts] = [some (.lst (xs.map Ln.d)), some p.d, some q.d, some (tldD t ts), none, none] := rfl
  have lm := L.fit _ (last_mem L.ne).1
  have sl := sub_lastr L.ne (at_last S (.lst (xs.map Ln.d)))
  rw [show (lastL xs).d = .tup [(lastL xs).l.d, (lastL xs).r.d, (lastL xs).rs.d] from rfl] at sl
  have c1 := re_cmp lm.ok.1.dt hp.dt (S ++ [.lst (xs.map Ln.d)])
  have c2 := re_cmp lm.ok.2.dt hq.dt (S ++ [.lst (xs.map Ln.d)])
  have go : ∃ T, evSs (callN Φ n) f455_L_lines.body (start f455_L_lines [.lst (xs.map Ln.d), p.d, q.d, tldD t ts]) S = .ret (.bl (allH ts [] xs && ends xs p q)) (S ++ T) := by
    rw [body455, st]
    cases z : allH ts [] xs with
    | false =>
      refine ⟨[o], ?_⟩
      rw [z] at lp
      simp [isTy, en, newD, lp]
    | true =>
      refine ⟨[.lst (xs.map Ln.d)], ?_⟩
      rw [z] at lp
      by_cases y : (lastL xs).l = p
      · rw [decide_eq_true y] at c1
        simp [isTy, en, newD, lp, sl, sub0, sub1, c1, c2, ends, decide_eq_true y]
      · rw [decide_eq_false y] at c1
        simp [isTy, en, newD, lp, sl, sub0, sub1, c1, c2, ends, decide_eq_false y]
  obtain ⟨T, go⟩ := go
  rw [call_ret' P.h455 ⟨rfl, by decide⟩ go, gc_bl]
theorem goodL_val (P : PhiL Φ) {t : Bool} {ts : List Re} {xs : List Ln} (L : Lot t ts xs) {p q : Re} (hp : p.s30) (hq : q.s30) (wp : (toP p.d).weight ≤ sz) (wq : (toP q.d).weight ≤ sz) (N : Nat) (hN : 35 ≤ N) (S : Sto) : callN Φ N 456 [.lst (xs.map Ln.d), p.d, q.d, tldD t ts] S = .ok (.bl true) S := by
  obtain ⟨n, rfl, hn⟩ := pre_pos (k := 34) hN
  have v1 := is_val P L hp hq wp wq n hn S
  have v2 := L_is_val P L hp hq n hn S
  have rp := L.sm.repr S
  refine call_ret P.h456 ⟨rfl, by decide⟩ ?_
  have ib : ∀ b : Bool, isTy S .bool (.bl b) = some true := fun _ => rfl
  simp [f456_L_good, start, rp, v1, v2, ib, cmp_eq_bl, cmp_eq (eqD_str' _ _ S)]
end SL
set_option Elab.async false
set_option linter.all false
set_option maxRecDepth 100000
set_option maxHeartbeats 4000000
/-! E8: the law's lots of lines. -/
namespace SL
open PySem
variable {Φ : Nat → Option Def}
theorem flat_mem {ds : List D} (h : flats ds = true) : ∀ d ∈ ds, flat d = true ∧ (toP d).depth ≤ PyData.depthAll (toPs ds) := by
  induction ds with
  | nil => intro d hd; cases hd
  | cons e r ih =>
    intro d hd
    obtain ⟨f1, f2⟩ := and2 (show (flat e && flats r) = true from h)
    rcases List.mem_cons.mp hd with rfl | hd
    · exact ⟨f1, by simp only [toPs, PyData.depthAll]; omega⟩
    · have := ih f2 d hd
      exact ⟨this.1, by simp only [toPs, PyData.depthAll]; omega⟩
theorem pure_flat : ∀ (n : Nat) (d : D), flat d = true → (toP d).depth < n → pureD n d
  | 0, _, _, h => by omega
  | n + 1, .tup ds, h, hd => by
    unfold pureD
    intro d hm
    have := flat_mem (show flats ds = true from h) d hm
    exact pure_flat n d this.1 (by simp only [toP, PyData.depth] at hd; omega)
  | n + 1, .lst ds, h, hd => by
    unfold pureD
    intro d hm
    have := flat_mem (show flats ds = true from h) d hm
    exact pure_flat n d this.1 (by simp only [toP, PyData.depth] at hd; omega)
  | n + 1, .non, _, _ => trivial
  | n + 1, .bl _, _, _ => trivial
  | n + 1, .int _, _, _ => trivial
  | n + 1, .str _, _, _ => trivial
  | n + 1, .scr _, h, _ => by cases h
  | n + 1, .ref _, h, _ => by cases h
  | n + 1, .dct _ _, h, _ => by cases h
theorem gc_flat {S T : Sto} {d : D} (h : flat d = true) : gc S d (S ++ T) = S := by
  unfold gc
  rw [if_pos ⟨⟨_, pure_flat _ d h (Nat.lt_succ_self _)⟩, List.prefix_append _ _⟩]
theorem compL_mapC {c : List (Nat × Ob)} {step : D → Sto → Out (Option D)} {g : D → D} {S : Sto} (hc : Chk c S) : ∀ {xs : List D}, (∀ d ∈ xs, step d S = .ok (some (g d)) S) → compL c step xs S = .ok (xs.map g) S
  | [], _ => by unfold compL; rw [if_pos hc]; rfl
  | d :: ds, h => by
    unfold compL
    rw [if_pos hc, h d List.mem_cons_self]
    dsimp only
    rw [compL_mapC hc fun e he => h e (List.mem_cons_of_mem _ he)]
    rfl
/-! ### the lots -/
def pE (a : Re) : Re := .thn .empty a
def lbase (a b : Re) : List Ln := [⟨pE a, a, .rul⟩, ⟨pE b, b, .rul⟩, ⟨a, pE a, .tur 0⟩]
def odd0 (a b : Re) : List Ln := [⟨a, pE b, .tur 0⟩, ⟨b, pE a, .tur 0⟩, ⟨pE a, a, .tur 0⟩, ⟨pE b, pE a, .chn 0 2⟩]
def odd1 (a b : Re) : List Ln := [⟨pE a, pE b, .chn 0 2⟩, ⟨pE a, b, .chn 0 1⟩, ⟨.star (pE b), .star a, .str 0⟩]
def odd2 (a b : Re) : List Ln := [⟨.star (pE a), .star b, .str 0⟩]
def odd3 (o : Bool) (a b : Re) : List Ln := [⟨mk2 o a (pE b), mk2 o a b, .two o 0 1⟩, ⟨mk2 o (pE a) b, mk2 o a b, .two o 0 1⟩, ⟨mk2 o (pE a) (pE b), mk2 o b b, .two o 0 1⟩, ⟨mk2 o (pE a) (pE b), mk2 o a a, .two o 0 1⟩, ⟨mk2 o (pE b) (pE a), mk2 o a b, .two o 0 1⟩, ⟨mk2 o (pE a) (pE b), mk2 o b a, .two o 0 1⟩, ⟨mk2 (!o) (pE a) (pE b), mk2 o a b, .two o 0 1⟩, ⟨mk2 o (pE a) (pE b), mk2 (!o) a b, .two o 0 1⟩]
def oddX (a b : Re) : List Ln := (((odd0 a b ++ odd1 a b) ++ odd2 a b) ++ odd3 true a b) ++ odd3 false a b
def oddA (a b : Re) : List (List Ln) := (oddX a b).map fun x => lbase a b ++ [x, ⟨a, a, .same⟩]
def oddZ (a b : Re) : List Ln := lbase a b ++ [⟨pE a, pE a, .chn3 0 2 0⟩, ⟨a, a, .same⟩]
def lD (xs : List Ln) : D := .lst (xs.map Ln.d)
def oddS (a : Re) : D := .lst [.lst [a.d, a.d, .tup [.str sSame]]]
def oddLots (a b : Re) : List D := (oddA a b).map lD ++ [lD [⟨a, a, .lsame⟩], oddS a, lD (oddZ a b)]
def body107 : Ss := .cons (.par [11, 12] (.cons (.tup (.cons (.var 8) (.cons (.var 6) (.cons (.var 7) .nil)))) (.cons (.tup (.cons (.var 8) (.cons (.var 0) (.cons (.var 1) .nil)))) .nil))) (.cons (.asg (.name 10) (.lst (.cons (.tup (.cons (.tup (.cons (.var 8) (.cons (.var 0) (.cons (.var 7) .nil)))) (.cons (.var 12) .nil))) (.cons (.tup (.cons (.tup (.cons (.var 8) (.cons (.var 6) (.cons (.var 1) .nil)))) (.cons (.var 12) .nil))) (.cons (.tup (.cons (.var 11) (.cons (.tup (.cons (.var 8) (.cons (.var 1) (.cons (.var 1) .nil)))) .nil))) (.cons (.tup (.cons (.var 11) (.cons (.tup (.cons (.var 8) (.cons (.var 0) (.cons (.var 0) .nil)))) .nil))) .nil)))))) (.cons (.asg (.name 10) (.bin .add (.var 10) (.lst (.cons (.tup (.cons (.tup (.cons (.var 8) (.cons (.var 7) (.cons (.var 6) .nil)))) (.cons (.var 12) .nil))) (.cons (.tup (.cons (.var 11) (.cons (.tup (.cons (.var 8) (.cons (.var 1) (.cons (.var 0) .nil)))) .nil))) (.cons (.tup (.cons (.tup (.cons (.var 9) (.cons (.var 6) (.cons (.var 7) .nil)))) (.cons (.var 12) .nil))) (.cons (.tup (.cons (.var 11) (.cons (.tup (.cons (.var 9) (.cons (.var 0) (.cons (.var 1) .nil)))) .nil))) .nil))))))) (.cons (.asg (.name 4) (.newP (.var 4) (.comp (.tup (.cons (.var 14) (.cons (.var 15) (.cons (.tup (.cons (.var 8) (.cons (.cst (.int 0)) (.cons (.cst (.int 1)) .nil)))) .nil)))) (.tup [14, 15]) (.val (.var 10)) .no [14, 15]))) .nil)))
theorem turn107 {c : Nat → List D → Sto → Out D} {o : Bool} {a b : Re} {S0 : Sto} {L : List D} (hL : L.length ≤ 100) {e3 : Option D} {v5 v8 v9 v10 v11 v12 v13 v14 v15 : Option D} :
    forB (.tup [8, 9]) (evSs c body107) (.tup [.str (sTwo o), .str (sTwo (!o))]) [some a.d, some b.d, some Re.empty.d, e3, some (.ref S0.length), v5, some (pE a).d, some (pE b).d, v8, v9, v10, v11, v12, v13, v14, v15] (S0 ++ [.lst L]) =
      .nx [some a.d, some b.d, some Re.empty.d, e3, some (.ref (S0 ++ [Ob.lst L]).length), v5, some (pE a).d, some (pE b).d, some (.str (sTwo o)), some (.str (sTwo (!o))), some (.lst ((odd3 o a b).map fun z => .tup [z.l.d, z.r.d])), some (mk2 o (pE a) (pE b)).d, some (mk2 o a b).d, v13, v14, v15] ((S0 ++ [.lst L]) ++ [.lst (L ++ (odd3 o a b).map Ln.d)]) := by
  have m : ∀ o x y, (mk2 o x y).d = .tup [.str (sTwo o), x.d, y.d] := fun o x y => by cases o <;> rfl
  generalize hx : a.d = x
  generalize hy : b.d = y
  have hp : (pE a).d = .tup [.str sThen, .tup [.str sEmpty], x] := by rw [← hx]; rfl
  have hq : (pE b).d = .tup [.str sThen, .tup [.str sEmpty], y] := by rw [← hy]; rfl
  have it : items (S0 ++ [Ob.lst L]) (.ref S0.length) = some L := by simp [items]
  have hs : L.length + 8 ≤ sz := by show _ ≤ 16777216; omega
  simp only [odd3, Ln.d, Rs.d, List.map_cons, List.map_nil, m, hx, hy, hp, hq, Re.d]
  generalize sTwo o = w
  generalize sTwo (!o) = u
  simp [forB, bindTg, seqOf, setAll, body107, parD, binD, items, compD, compL, chk_nil, stepD, wipe, catD, hs]
end SL
set_option Elab.async false
set_option linter.all false
set_option maxRecDepth 100000
set_option maxHeartbeats 4000000
/-! E9: the lots are small. -/
namespace SL
open PySem
variable {Φ : Nat → Option Def}
theorem sq_of {a w : Nat} {d : D} (h : (flat d && ((toP d).canLay0 && (decide ((toP d).depth ≤ a) && (decide ((toP d).weight ≤ w) && ((toP d).showable && (toP d).intsShort 13))))) = true) : Sq a w d := by
  obtain ⟨h1, h⟩ := and2 h
  obtain ⟨h2, h⟩ := and2 h
  obtain ⟨h3, h⟩ := and2 h
  obtain ⟨h4, h⟩ := and2 h
  obtain ⟨h5, h6⟩ := and2 h
  exact ⟨h1, h2, of_decide_eq_true h3, of_decide_eq_true h4, h5, h6⟩
theorem sql_all {a w : Nat} : ∀ {ds : List D}, (∀ d ∈ ds, Sq a w d) → Sql a ((w + 1) * ds.length) ds
  | [], _ => sql_nil
  | d :: ds, h => by
    have r := sql_cons (h d List.mem_cons_self) (sql_all fun e he => h e (List.mem_cons_of_mem _ he))
    have e : w + 1 + (w + 1) * ds.length = (w + 1) * (d :: ds).length := by rw [List.length_cons, Nat.mul_succ]; omega
    rwa [e] at r
structure R7 (r : Re) : Prop where
  ok : r.ok
  sq : Sq 7 500 r.d
structure Rq (r : Re) : Prop where
  ok : r.ok
  sq : Sq 8 1100 r.d
theorem R7.rq {r : Re} (h : R7 r) : Rq r := ⟨h.ok, (h.sq.up (by decide)).wd (by decide)⟩
theorem R7.star {r : Re} (h : R7 r) : Rq (.star r) := ⟨h.ok, (sq_tup (sql_cons (sq_str (s := sStar) rfl) (sql_cons h.sq sql_nil))).wd (by decide)⟩
theorem R7.two {o : Bool} {r q : Re} (h : R7 r) (g : R7 q) : Rq (mk2 o r q) := by
  cases o
  · exact ⟨⟨h.ok, g.ok⟩, (sq_tup (sql_cons (sq_str (s := sThen) rfl) (sql_cons h.sq (sql_cons g.sq sql_nil)))).wd (by decide)⟩
  · exact ⟨⟨h.ok, g.ok⟩, (sq_tup (sql_cons (sq_str (s := sOr) rfl) (sql_cons h.sq (sql_cons g.sq sql_nil)))).wd (by decide)⟩
structure Bq (r : Re) : Prop where
  ok : r.ok
  sq : Sq 6 400 r.d
theorem Bq.r7 {r : Re} (h : Bq r) : R7 r := ⟨h.ok, (h.sq.up (by decide)).wd (by decide)⟩
theorem Bq.p {r : Re} (h : Bq r) : R7 (pE r) := ⟨⟨trivial, h.ok⟩, (sq_tup (sql_cons (sq_str (s := sThen) rfl) (sql_cons (sq_of (d := .tup [.str sEmpty]) (a := 6) (w := 20) (by decide +kernel)) (sql_cons h.sq sql_nil)))).wd (by decide)⟩
theorem Rq.s30 {r : Re} (h : Rq r) : r.s30 := ⟨h.ok, by rw [← Re.depth_eq]; exact Nat.le_trans h.sq.dep (by decide)⟩
theorem Rq.wt {r : Re} (h : Rq r) : (toP r.d).weight ≤ sz := Nat.le_trans h.sq.wt (by decide)
structure Ln.q (x : Ln) : Prop where
  l : Rq x.l
  r : Rq x.r
  s : Sq 2 100 x.rs.d
theorem Ln.q.sq {x : Ln} (h : x.q) : Sq 9 2303 x.d := sq_tup (sql_cons h.l.sq (sql_cons h.r.sq (sql_cons (h.s.up (by decide)) sql_nil)))
theorem none_rq : Rq .none := ⟨trivial, sq_of (by decide +kernel)⟩
theorem Lot.of {t : Bool} {ts : List Re} {xs : List Ln} (h : ∀ x ∈ xs, x.q) (ne : xs ≠ []) (len : xs.length ≤ 10) (ht : ∀ r ∈ ts, Rq r) (hl : ts.length ≤ 4) : Lot t ts xs := by
  have s1 : Sq 10 23040 (.lst (xs.map Ln.d)) := by
    refine (sq_lst (sql_all (w := 2303) fun d hd => ?_)).wd (by rw [List.length_map]; omega)
    obtain ⟨x, hx, rfl⟩ := List.mem_map.mp hd
    exact (h x hx).sq
  have s2 : Sq 9 4404 (tldD t ts) := by
    have e : Sql 8 (1101 * (ts.map Re.d).length) (ts.map Re.d) := sql_all (w := 1100) fun d hd => by
      obtain ⟨x, hx, rfl⟩ := List.mem_map.mp hd
      exact (ht x hx).sq
    have l : 1101 * (ts.map Re.d).length ≤ 4404 := by rw [List.length_map]; omega
    cases t
    · exact (sq_lst e).wd l
    · exact (sq_tup e).wd l
  have s3 : Sq 11 27446 (.lst [.lst (xs.map Ln.d), tldD t ts]) := sq_lst (sql_cons s1 (sql_cons (s2.up (by decide)) sql_nil))
  exact ⟨fun x hx => ⟨⟨(h x hx).l.s30, (h x hx).r.s30⟩, (h x hx).l.wt, (h x hx).r.wt⟩, ne, by omega, fun r hr => (ht r hr).s30, fun r hr => (ht r hr).wt, (s3.up (by decide)).sm' (by decide) (by decide), ⟨s1.fl, s1.lay, Nat.le_trans s1.dep (by decide)⟩⟩
theorem q_rul : Sq 2 100 Rs.rul.d := sq_of (by decide +kernel)
theorem q_sam : Sq 2 100 Rs.same.d := sq_of (by decide +kernel)
theorem q_lsa : Sq 2 100 Rs.lsame.d := sq_of (by decide +kernel)
theorem q_t0 : Sq 2 100 (Rs.tur 0).d := sq_of (by decide +kernel)
theorem q_t1 : Sq 2 100 (Rs.tur 1).d := sq_of (by decide +kernel)
theorem q_s0 : Sq 2 100 (Rs.str 0).d := sq_of (by decide +kernel)
theorem q_c02 : Sq 2 100 (Rs.chn 0 2).d := sq_of (by decide +kernel)
theorem q_c20 : Sq 2 100 (Rs.chn 2 0).d := sq_of (by decide +kernel)
theorem q_c01 : Sq 2 100 (Rs.chn 0 1).d := sq_of (by decide +kernel)
theorem q_o01 : Sq 2 100 (Rs.two true 0 1).d := sq_of (by decide +kernel)
theorem q_d01 : Sq 2 100 (Rs.two false 0 1).d := sq_of (by decide +kernel)
theorem q_d10 : Sq 2 100 (Rs.two false 1 0).d := sq_of (by decide +kernel)
theorem q_o22 : Sq 2 100 (Rs.two true 2 2).d := sq_of (by decide +kernel)
theorem q_c3 : Sq 2 100 (Rs.chn3 0 2 0).d := sq_of (by decide +kernel)
section
variable {a b : Re} (ha : Bq a) (hb : Bq b)
include ha hb
theorem q_base : ∀ x ∈ lbase a b, x.q := by
  intro x hx
  simp only [lbase, List.mem_cons, List.not_mem_nil, or_false] at hx
  rcases hx with rfl | rfl | rfl
  · exact ⟨ha.p.rq, ha.r7.rq, (by first | exact q_rul | exact q_sam | exact q_lsa | exact q_t0 | exact q_t1 | exact q_s0 | exact q_c02 | exact q_c20 | exact q_c01 | exact q_o01 | exact q_d01 | exact q_d10 | exact q_o22 | exact q_c3)⟩
  · exact ⟨hb.p.rq, hb.r7.rq, (by first | exact q_rul | exact q_sam | exact q_lsa | exact q_t0 | exact q_t1 | exact q_s0 | exact q_c02 | exact q_c20 | exact q_c01 | exact q_o01 | exact q_d01 | exact q_d10 | exact q_o22 | exact q_c3)⟩
  · exact ⟨ha.r7.rq, ha.p.rq, (by first | exact q_rul | exact q_sam | exact q_lsa | exact q_t0 | exact q_t1 | exact q_s0 | exact q_c02 | exact q_c20 | exact q_c01 | exact q_o01 | exact q_d01 | exact q_d10 | exact q_o22 | exact q_c3)⟩
theorem q_same : Ln.q ⟨a, a, .same⟩ := ⟨ha.r7.rq, ha.r7.rq, (by first | exact q_rul | exact q_sam | exact q_lsa | exact q_t0 | exact q_t1 | exact q_s0 | exact q_c02 | exact q_c20 | exact q_c01 | exact q_o01 | exact q_d01 | exact q_d10 | exact q_o22 | exact q_c3)⟩
theorem q_odd : ∀ x ∈ oddX a b, x.q := by
  have a7 := ha.r7
  have b7 := hb.r7
  have ap := ha.p
  have bp := hb.p
  have o3 : ∀ o, ∀ x ∈ odd3 o a b, x.q := by
    intro o x hx
    have ss : Sq 2 100 (Rs.two o 0 1).d := by cases o <;> exact sq_of (by decide +kernel)
    simp only [odd3, List.mem_cons, List.not_mem_nil, or_false] at hx
    rcases hx with rfl | rfl | rfl | rfl | rfl | rfl | rfl | rfl
    · exact ⟨a7.two bp, a7.two b7, ss⟩
    · exact ⟨ap.two b7, a7.two b7, ss⟩
    · exact ⟨ap.two bp, b7.two b7, ss⟩
    · exact ⟨ap.two bp, a7.two a7, ss⟩
    · exact ⟨bp.two ap, a7.two b7, ss⟩
    · exact ⟨ap.two bp, b7.two a7, ss⟩
    · exact ⟨ap.two bp, a7.two b7, ss⟩
    · exact ⟨ap.two bp, a7.two b7, ss⟩
  intro x hx
  simp only [oddX, List.mem_append] at hx
  rcases hx with (((hx | hx) | hx) | hx) | hx
  · simp only [odd0, List.mem_cons, List.not_mem_nil, or_false] at hx
    rcases hx with rfl | rfl | rfl | rfl
    · exact ⟨a7.rq, bp.rq, (by first | exact q_rul | exact q_sam | exact q_lsa | exact q_t0 | exact q_t1 | exact q_s0 | exact q_c02 | exact q_c20 | exact q_c01 | exact q_o01 | exact q_d01 | exact q_d10 | exact q_o22 | exact q_c3)⟩
    · exact ⟨b7.rq, ap.rq, (by first | exact q_rul | exact q_sam | exact q_lsa | exact q_t0 | exact q_t1 | exact q_s0 | exact q_c02 | exact q_c20 | exact q_c01 | exact q_o01 | exact q_d01 | exact q_d10 | exact q_o22 | exact q_c3)⟩
    · exact ⟨ap.rq, a7.rq, (by first | exact q_rul | exact q_sam | exact q_lsa | exact q_t0 | exact q_t1 | exact q_s0 | exact q_c02 | exact q_c20 | exact q_c01 | exact q_o01 | exact q_d01 | exact q_d10 | exact q_o22 | exact q_c3)⟩
    · exact ⟨bp.rq, ap.rq, (by first | exact q_rul | exact q_sam | exact q_lsa | exact q_t0 | exact q_t1 | exact q_s0 | exact q_c02 | exact q_c20 | exact q_c01 | exact q_o01 | exact q_d01 | exact q_d10 | exact q_o22 | exact q_c3)⟩
  · simp only [odd1, List.mem_cons, List.not_mem_nil, or_false] at hx
    rcases hx with rfl | rfl | rfl
    · exact ⟨ap.rq, bp.rq, (by first | exact q_rul | exact q_sam | exact q_lsa | exact q_t0 | exact q_t1 | exact q_s0 | exact q_c02 | exact q_c20 | exact q_c01 | exact q_o01 | exact q_d01 | exact q_d10 | exact q_o22 | exact q_c3)⟩
    · exact ⟨ap.rq, b7.rq, (by first | exact q_rul | exact q_sam | exact q_lsa | exact q_t0 | exact q_t1 | exact q_s0 | exact q_c02 | exact q_c20 | exact q_c01 | exact q_o01 | exact q_d01 | exact q_d10 | exact q_o22 | exact q_c3)⟩
    · exact ⟨bp.star, a7.star, (by first | exact q_rul | exact q_sam | exact q_lsa | exact q_t0 | exact q_t1 | exact q_s0 | exact q_c02 | exact q_c20 | exact q_c01 | exact q_o01 | exact q_d01 | exact q_d10 | exact q_o22 | exact q_c3)⟩
  · simp only [odd2, List.mem_cons, List.not_mem_nil, or_false] at hx
    rcases hx with rfl
    exact ⟨ap.star, b7.star, (by first | exact q_rul | exact q_sam | exact q_lsa | exact q_t0 | exact q_t1 | exact q_s0 | exact q_c02 | exact q_c20 | exact q_c01 | exact q_o01 | exact q_d01 | exact q_d10 | exact q_o22 | exact q_c3)⟩
  · exact o3 true x hx
  · exact o3 false x hx
/-- every lot of lines but the one whose line is a list -/
theorem lot_odd : ∀ xs ∈ oddA a b ++ [[⟨a, a, .lsame⟩], oddZ a b], Lot true [] xs := by
  intro xs hx
  rcases List.mem_append.mp hx with hx | hx
  · obtain ⟨x, h, rfl⟩ := List.mem_map.mp hx
    refine Lot.of (fun y hy => ?_) (by simp [lbase]) (by simp [lbase]) (fun r hr => by cases hr) (by decide)
    rcases List.mem_append.mp hy with hy | hy
    · exact q_base ha hb y hy
    · simp only [List.mem_cons, List.not_mem_nil, or_false] at hy
      rcases hy with rfl | rfl
      · exact q_odd ha hb _ h
      · exact q_same ha hb
  · simp only [List.mem_cons, List.not_mem_nil, or_false] at hx
    rcases hx with rfl | rfl
    · refine Lot.of (fun y hy => ?_) (by simp) (by simp) (fun r hr => by cases hr) (by decide)
      rw [List.mem_singleton.mp hy]
      exact ⟨ha.r7.rq, ha.r7.rq, (by first | exact q_rul | exact q_sam | exact q_lsa | exact q_t0 | exact q_t1 | exact q_s0 | exact q_c02 | exact q_c20 | exact q_c01 | exact q_o01 | exact q_d01 | exact q_d10 | exact q_o22 | exact q_c3)⟩
    · refine Lot.of (fun y hy => ?_) (by simp [oddZ, lbase]) (by simp [oddZ, lbase]) (fun r hr => by cases hr) (by decide)
      rcases List.mem_append.mp hy with hy | hy
      · exact q_base ha hb y hy
      · simp only [List.mem_cons, List.not_mem_nil, or_false] at hy
        rcases hy with rfl | rfl
        · exact ⟨ha.p.rq, ha.p.rq, (by first | exact q_rul | exact q_sam | exact q_lsa | exact q_t0 | exact q_t1 | exact q_s0 | exact q_c02 | exact q_c20 | exact q_c01 | exact q_o01 | exact q_d01 | exact q_d10 | exact q_o22 | exact q_c3)⟩
        · exact q_same ha hb
end
/-- the lot whose line is a list -/
theorem goodS_val (P : PhiL Φ) {a : Re} (ha : Bq a) (N : Nat) (hN : 35 ≤ N) (S : Sto) : callN Φ N 456 [oddS a, a.d, a.d, .tup []] S = .ok (.bl true) S ∧ callN Φ N 452 [oddS a, a.d, a.d, .tup []] S = .ok (.bl false) S := by
  have rq := ha.r7.rq
  have sS : Sq 10 3000 (oddS a) := (sq_lst (sql_cons (sq_lst (sql_cons rq.sq (sql_cons rq.sq (sql_cons (sq_of (d := .tup [.str sSame]) (w := 20) (by decide +kernel)) sql_nil)))) sql_nil)).wd (by decide)
  have dS : Dt (oddS a) := ⟨sS.fl, sS.lay, Nat.le_trans sS.dep (by decide)⟩
  have v1 : ∀ N, 34 ≤ N → callN Φ N 452 [oddS a, a.d, a.d, .tup []] S = .ok (.bl false) S := fun N hN => by
    obtain ⟨n, rfl, hn⟩ := pre_pos (k := 33) hN
    have l1 := look_val P rq.s30 rq.wt n hn S
    have l3 : callN Φ n 51 [.tup []] S = .ok .non S := tlook_val P (t := true) (ts := []) (fun r hr => by cases hr) (fun r hr => by cases hr) n hn S
    have av : callN Φ n 451 [oddS a, .tup []] S = .ok (.bl false) S := by
      obtain ⟨k, rfl, hk⟩ := pre_pos (k := 32) hn
      have en := eq_nil (show Dt (.lst [.lst [a.d, a.d, .tup [.str sSame]]]) from dS) S
      have go : evSs (callN Φ k) f451_are_lines.body (start f451_are_lines [oddS a, .tup []]) S = .ret (.bl false) (S ++ [.lst []]) := by
        rw [body451]
        simp [start, oddS, f451_are_lines, isTy, en, newD, forL, chk_nil, forB, bodyA]
      rw [call_ret' P.h451 ⟨rfl, by decide⟩ go, gc_bl]
    exact call_ret P.h452 ⟨rfl, by decide⟩ (by simp [f452_is_lines, start, l1, l3, av])
  refine ⟨?_, v1 N (by omega)⟩
  obtain ⟨n, rfl, hn⟩ := pre_pos (k := 34) hN
  have v2 : callN Φ n 455 [oddS a, a.d, a.d, .tup []] S = .ok (.bl false) S := by
    obtain ⟨k, rfl, hk⟩ := pre_pos (k := 33) hn
    have en := eq_nil (show Dt (.lst [.lst [a.d, a.d, .tup [.str sSame]]]) from dS) S
    have go : evSs (callN Φ k) f455_L_lines.body (start f455_L_lines [oddS a, a.d, a.d, .tup []]) S = .ret (.bl false) (S ++ [.lst []]) := by
      rw [body455]
      simp [start, oddS, f455_L_lines, isTy, en, newD, forL, chk_nil, forB, bodyB]
    rw [call_ret' P.h455 ⟨rfl, by decide⟩ go, gc_bl]
  have rp := Sm.repr (m := 20) (d := .lst [oddS a, .tup []]) (((sq_lst (sql_cons sS (sql_cons (sq_of (d := .tup []) (a := 10) (w := 20) (by decide +kernel)) sql_nil))).up (by decide)).sm' (by decide) (by decide)) S
  refine call_ret P.h456 ⟨rfl, by decide⟩ ?_
  have ib : ∀ b : Bool, isTy S .bool (.bl b) = some true := fun _ => rfl
  simp [f456_L_good, start, rp, v1 n hn, v2, ib, cmp_eq_bl, cmp_eq (eqD_str' _ _ S)]
end SL
set_option Elab.async false
set_option linter.all false
set_option maxRecDepth 100000
set_option maxHeartbeats 4000000
/-! E10: the law's lots, evaluated. -/
namespace SL
open PySem
variable {Φ : Nat → Option Def}
-- 9 statements
def s107_0 : S := (.asg (.name 2) (.tup (.cons (.cst (.str [101, 109, 112, 116, 121])) .nil)))
def s107_1 : S := (.par [6, 7] (.cons (.tup (.cons (.cst (.str [116, 104, 101, 110])) (.cons (.var 2) (.cons (.var 0) .nil)))) (.cons (.tup (.cons (.cst (.str [116, 104, 101, 110])) (.cons (.var 2) (.cons (.var 1) .nil)))) .nil)))
def s107_2 : S := (.asg (.name 3) (.lst (.cons (.tup (.cons (.var 6) (.cons (.var 0) (.cons (.tup (.cons (.cst (.str [114, 117, 108, 101])) (.cons (.cst (.str [101, 109, 112, 116, 121, 32, 97, 104, 101, 97, 100])) .nil))) .nil)))) (.cons (.tup (.cons (.var 7) (.cons (.var 1) (.cons (.tup (.cons (.cst (.str [114, 117, 108, 101])) (.cons (.cst (.str [101, 109, 112, 116, 121, 32, 97, 104, 101, 97, 100])) .nil))) .nil)))) (.cons (.tup (.cons (.var 0) (.cons (.var 6) (.cons (.tup (.cons (.cst (.str [116, 117, 114, 110, 101, 100])) (.cons (.cst (.int 0)) .nil))) .nil)))) .nil)))))
def s107_3 : S := (.asg (.name 4) (.newL (.cons (.tup (.cons (.var 0) (.cons (.var 7) (.cons (.tup (.cons (.cst (.str [116, 117, 114, 110, 101, 100])) (.cons (.cst (.int 0)) .nil))) .nil)))) (.cons (.tup (.cons (.var 1) (.cons (.var 6) (.cons (.tup (.cons (.cst (.str [116, 117, 114, 110, 101, 100])) (.cons (.cst (.int 0)) .nil))) .nil)))) (.cons (.tup (.cons (.var 6) (.cons (.var 0) (.cons (.tup (.cons (.cst (.str [116, 117, 114, 110, 101, 100])) (.cons (.cst (.int 0)) .nil))) .nil)))) (.cons (.tup (.cons (.var 7) (.cons (.var 6) (.cons (.tup (.cons (.cst (.str [99, 104, 97, 105, 110, 101, 100])) (.cons (.cst (.int 0)) (.cons (.cst (.int 2)) .nil)))) .nil)))) .nil))))))
def s107_4 : S := (.asg (.name 4) (.newP (.var 4) (.lst (.cons (.tup (.cons (.var 6) (.cons (.var 7) (.cons (.tup (.cons (.cst (.str [99, 104, 97, 105, 110, 101, 100])) (.cons (.cst (.int 0)) (.cons (.cst (.int 2)) .nil)))) .nil)))) (.cons (.tup (.cons (.var 6) (.cons (.var 1) (.cons (.tup (.cons (.cst (.str [99, 104, 97, 105, 110, 101, 100])) (.cons (.cst (.int 0)) (.cons (.cst (.int 1)) .nil)))) .nil)))) (.cons (.tup (.cons (.tup (.cons (.cst (.str [115, 116, 97, 114])) (.cons (.var 7) .nil))) (.cons (.tup (.cons (.cst (.str [115, 116, 97, 114])) (.cons (.var 0) .nil))) (.cons (.tup (.cons (.cst (.str [115, 116, 97, 114])) (.cons (.cst (.int 0)) .nil))) .nil)))) .nil))))))
def s107_5 : S := (.exp (.mth .append (.var 4) (.cons (.tup (.cons (.tup (.cons (.cst (.str [115, 116, 97, 114])) (.cons (.var 6) .nil))) (.cons (.tup (.cons (.cst (.str [115, 116, 97, 114])) (.cons (.var 1) .nil))) (.cons (.tup (.cons (.cst (.str [115, 116, 97, 114])) (.cons (.cst (.int 0)) .nil))) .nil)))) .nil)))
def s107_6 : S := (.fors (.tup [8, 9]) (.val (.lst (.cons (.tup (.cons (.cst (.str [111, 114])) (.cons (.cst (.str [116, 104, 101, 110])) .nil))) (.cons (.tup (.cons (.cst (.str [116, 104, 101, 110])) (.cons (.cst (.str [111, 114])) .nil))) .nil)))) body107)
def s107_7 : S := (.asg (.name 5) (.comp (.bin .add (.var 3) (.lst (.cons (.var 13) (.cons (.tup (.cons (.var 0) (.cons (.var 0) (.cons (.tup (.cons (.cst (.str [115, 97, 109, 101])) .nil)) .nil)))) .nil)))) (.name 13) (.val (.var 4)) .no [13]))
def s107_8 : S := (.ret (.bin .add (.var 5) (.lst (.cons (.lst (.cons (.tup (.cons (.var 0) (.cons (.var 0) (.cons (.lst (.cons (.cst (.str [115, 97, 109, 101])) .nil)) .nil)))) .nil)) (.cons (.lst (.cons (.lst (.cons (.var 0) (.cons (.var 0) (.cons (.tup (.cons (.cst (.str [115, 97, 109, 101])) .nil)) .nil)))) .nil)) (.cons (.bin .add (.var 3) (.lst (.cons (.tup (.cons (.var 6) (.cons (.var 6) (.cons (.tup (.cons (.cst (.str [99, 104, 97, 105, 110, 101, 100])) (.cons (.cst (.int 0)) (.cons (.cst (.int 2)) (.cons (.cst (.int 0)) .nil))))) .nil)))) (.cons (.tup (.cons (.var 0) (.cons (.var 0) (.cons (.tup (.cons (.cst (.str [115, 97, 109, 101])) .nil)) .nil)))) .nil)))) .nil))))))
theorem b107 : f107_L_odd_lots.body = (.cons s107_0 (.cons s107_1 (.cons s107_2 (.cons s107_3 (.cons s107_4 (.cons s107_5 (.cons s107_6 (.cons s107_7 (.cons s107_8 .nil))))))))) := rfl
structure PhiO (Φ : Nat → Option Def) : Prop where
  l : PhiL Φ
  h107 : Φ 107 = some f107_L_odd_lots
  h109 : Φ 109 = some f109_L_right_lots
  h457 : Φ 457 = some f457_L_told_good
theorem items_last (S0 : Sto) (L : List D) : items (S0 ++ [Ob.lst L]) (.ref S0.length) = some L := by simp [items]
theorem cat_last {S0 : Sto} {L M : List D} (h : L.length + M.length ≤ 100) : catD (.ref S0.length) (.lst M) (S0 ++ [.lst L]) = .ok (.ref (S0 ++ [Ob.lst L]).length) ((S0 ++ [.lst L]) ++ [.lst (L ++ M)]) := by
  have hs : L.length + M.length ≤ sz := by show _ ≤ 16777216; omega
  unfold catD
  rw [items_last]
  simp only [items, hs, if_true]
theorem odd_val (P : PhiO Φ) {a b : Re} (ha : Bq a) (hb : Bq b) (N : Nat) (hN : 1 ≤ N) (S : Sto) : callN Φ N 107 [a.d, b.d] S = .ok (.lst (oddLots a b)) S := by
  obtain ⟨n, rfl, hn⟩ := pre_pos (k := 0) hN
  have st : start f107_L_odd_lots [a.d, b.d] = [some a.d, some b.d, none, none, none, none, none, none, none, none, none, none, none, none, none, none] := rfl
  have e0 : evS (callN Φ n) s107_0 [some a.d, some b.d, none, none, none, none, none, none, none, none, none, none, none, none, none, none] S = .nx [some a.d, some b.d, some Re.empty.d, none, none, none, none, none, none, none, none, none, none, none, none, none] S := by
    simp [s107_0, Re.d]
  have e1 : evS (callN Φ n) s107_1 [some a.d, some b.d, some Re.empty.d, none, none, none, none, none, none, none, none, none, none, none, none, none] S = .nx [some a.d, some b.d, some Re.empty.d, none, none, none, some (pE a).d, some (pE b).d, none, none, none, none, none, none, none, none] S := by
    simp [s107_1, Re.d, pE, parD, setAll]
  have e2 : evS (callN Φ n) s107_2 [some a.d, some b.d, some Re.empty.d, none, none, none, some (pE a).d, some (pE b).d, none, none, none, none, none, none, none, none] S = .nx [some a.d, some b.d, some Re.empty.d, some (lD (lbase a b)), none, none, some (pE a).d, some (pE b).d, none, none, none, none, none, none, none, none] S := by
    simp [s107_2, lD, lbase, Ln.d, Rs.d]
  have e3 : evS (callN Φ n) s107_3 [some a.d, some b.d, some Re.empty.d, some (lD (lbase a b)), none, none, some (pE a).d, some (pE b).d, none, none, none, none, none, none, none, none] S = .nx [some a.d, some b.d, some Re.empty.d, some (lD (lbase a b)), some (.ref S.length), none, some (pE a).d, some (pE b).d, none, none, none, none, none, none, none, none] (S ++ [.lst ((odd0 a b).map Ln.d)]) := by
    simp [s107_3, odd0, Ln.d, Rs.d, newD]
  have e4 : evS (callN Φ n) s107_4 [some a.d, some b.d, some Re.empty.d, some (lD (lbase a b)), some (.ref S.length), none, some (pE a).d, some (pE b).d, none, none, none, none, none, none, none, none] (S ++ [.lst ((odd0 a b).map Ln.d)]) = .nx [some a.d, some b.d, some Re.empty.d, some (lD (lbase a b)), some (.ref (S ++ [Ob.lst ((odd0 a b).map Ln.d)]).length), none, some (pE a).d, some (pE b).d, none, none, none, none, none, none, none, none] ((S ++ [.lst ((odd0 a b).map Ln.d)]) ++ [.lst ((odd0 a b).map Ln.d ++ (odd1 a b).map Ln.d)]) := by
    have c := cat_last (S0 := S) (L := (odd0 a b).map Ln.d) (M := (odd1 a b).map Ln.d) (by simp [odd0, odd1])
    simp only [odd1, List.map_cons, List.map_nil, Ln.d, Rs.d] at c
    simp only [odd1, List.map_cons, List.map_nil, Ln.d, Rs.d, Re.d]
    simp only [Re.d] at c
    generalize (odd0 a b).map Ln.d = L at c ⊢
    simp only [s107_4, evS_asg, ev_newP, ev_var, getS_succ, getS_zero, Out.ok_bind, ev_lst, evs_cons, evs_nil, ev_tup, ev_cst]
    simp only [List.length_cons, List.length_nil, le_sz, if_true, Out.ok_bind, Nat.reduceAdd, Nat.reduceLeDiff]
    rw [c]
    rfl
  generalize hS1 : S ++ [Ob.lst ((odd0 a b).map Ln.d)] = S1 at e4
  have ap := app_last (S0 := S1) (xs := (odd0 a b).map Ln.d ++ (odd1 a b).map Ln.d) (d := (⟨.star (pE a), .star b, .str 0⟩ : Ln).d) (by simp [odd0, odd1])
  have rc := recv_last S1 ((odd0 a b).map Ln.d ++ (odd1 a b).map Ln.d)
  have e5 : evS (callN Φ n) s107_5 [some a.d, some b.d, some Re.empty.d, some (lD (lbase a b)), some (.ref S1.length), none, some (pE a).d, some (pE b).d, none, none, none, none, none, none, none, none] (S1 ++ [.lst ((odd0 a b).map Ln.d ++ (odd1 a b).map Ln.d)]) = .nx [some a.d, some b.d, some Re.empty.d, some (lD (lbase a b)), some (.ref S1.length), none, some (pE a).d, some (pE b).d, none, none, none, none, none, none, none, none] (S1 ++ [.lst (((odd0 a b ++ odd1 a b) ++ odd2 a b).map Ln.d)]) := by
    simp only [Ln.d, Rs.d, Re.d] at ap
    have q : ((odd0 a b ++ odd1 a b) ++ odd2 a b).map Ln.d = ((odd0 a b).map Ln.d ++ (odd1 a b).map Ln.d) ++ [.tup [.tup [.str sStar, (pE a).d], .tup [.str sStar, b.d], .tup [.str sStar, .int 0]]] := by
      rw [List.map_append, List.map_append]; rfl
    rw [q]
    simp [s107_5, mthX, rc, ap]
  have t1 := turn107 (c := callN Φ n) (o := true) (a := a) (b := b) (S0 := S1) (L := ((odd0 a b ++ odd1 a b) ++ odd2 a b).map Ln.d) (by simp [odd0, odd1, odd2]) (e3 := some (lD (lbase a b))) (v5 := none) (v8 := none) (v9 := none) (v10 := none) (v11 := none) (v12 := none) (v13 := none) (v14 := none) (v15 := none)
  rw [← List.map_append] at t1
  generalize hS2 : S1 ++ [Ob.lst (((odd0 a b ++ odd1 a b) ++ odd2 a b).map Ln.d)] = S2 at t1 e5
  have t2 := turn107 (c := callN Φ n) (o := false) (a := a) (b := b) (S0 := S2) (L := (((odd0 a b ++ odd1 a b) ++ odd2 a b) ++ odd3 true a b).map Ln.d) (by simp [odd0, odd1, odd2, odd3]) (e3 := some (lD (lbase a b))) (v5 := none) (v8 := some (.str (sTwo true))) (v9 := some (.str (sTwo (!true)))) (v10 := some (.lst ((odd3 true a b).map fun z => .tup [z.l.d, z.r.d]))) (v11 := some (mk2 true (pE a) (pE b)).d) (v12 := some (mk2 true a b).d) (v13 := none) (v14 := none) (v15 := none)
  rw [← List.map_append] at t2
  generalize hS3 : S2 ++ [Ob.lst ((((odd0 a b ++ odd1 a b) ++ odd2 a b) ++ odd3 true a b).map Ln.d)] = S3 at t1 t2
  have e6 : ∃ v8 v9 v10 v11 v12, evS (callN Φ n) s107_6 [some a.d, some b.d, some Re.empty.d, some (lD (lbase a b)), some (.ref S1.length), none, some (pE a).d, some (pE b).d, none, none, none, none, none, none, none, none] S2 = .nx [some a.d, some b.d, some Re.empty.d, some (lD (lbase a b)), some (.ref S3.length), none, some (pE a).d, some (pE b).d, v8, v9, v10, v11, v12, none, none, none] (S3 ++ [.lst ((oddX a b).map Ln.d)]) := by
    refine ⟨some (.str (sTwo false)), some (.str (sTwo (!false))), some (.lst ((odd3 false a b).map fun z => .tup [z.l.d, z.r.d])), some (mk2 false (pE a) (pE b)).d, some (mk2 false a b).d, ?_⟩
    have t1 : forB (.tup [8, 9]) (evSs (callN Φ n) body107) (.tup [.str [111, 114], .str [116, 104, 101, 110]]) _ _ = _ := t1
    have t2 : forB (.tup [8, 9]) (evSs (callN Φ n) body107) (.tup [.str [116, 104, 101, 110], .str [111, 114]]) _ _ = _ := t2
    simp only [s107_6, evS_fors, evi_val, ev_lst, evs_cons, evs_nil, ev_tup, ev_cst, Out.ok_bind, List.length_cons, List.length_nil, le_sz, if_true, Nat.reduceAdd, Nat.reduceLeDiff, val_lst, Out.so_ok]
    unfold forL
    rw [if_pos (chk_nil _), t1]
    dsimp only
    unfold forL
    rw [if_pos (chk_nil _), t2]
    dsimp only
    unfold forL
    rw [if_pos (chk_nil _)]
    rfl
  obtain ⟨v8, v9, v10, v11, v12, e6⟩ := e6
  have ck : Chk [(S3.length, Ob.lst ((oddX a b).map Ln.d))] (S3 ++ [.lst ((oddX a b).map Ln.d)]) := fun p hp => by
    rw [List.mem_singleton.mp hp]
    exact at_last _ _
  have cm : compD (.name 13) (evO (callN Φ n) .no) (evE (callN Φ n) (.bin .add (.var 3) (.lst (.cons (.var 13) (.cons (.tup (.cons (.var 0) (.cons (.var 0) (.cons (.tup (.cons (.cst (.str [115, 97, 109, 101])) .nil)) .nil)))) .nil))))) [13] [some a.d, some b.d, some Re.empty.d, some (lD (lbase a b)), some (.ref S3.length), none, some (pE a).d, some (pE b).d, v8, v9, v10, v11, v12, none, none, none] ⟨[(S3.length, Ob.lst ((oddX a b).map Ln.d))], (oddX a b).map Ln.d⟩ (S3 ++ [.lst ((oddX a b).map Ln.d)]) = .ok (.lst ((oddA a b).map lD)) (S3 ++ [.lst ((oddX a b).map Ln.d)]) := by
    have g := compL_mapC (c := [(S3.length, Ob.lst ((oddX a b).map Ln.d))]) (step := stepD (.name 13) (evO (callN Φ n) .no) (evE (callN Φ n) (.bin .add (.var 3) (.lst (.cons (.var 13) (.cons (.tup (.cons (.var 0) (.cons (.var 0) (.cons (.tup (.cons (.cst (.str [115, 97, 109, 101])) .nil)) .nil)))) .nil))))) (wipe [some a.d, some b.d, some Re.empty.d, some (lD (lbase a b)), some (.ref S3.length), none, some (pE a).d, some (pE b).d, v8, v9, v10, v11, v12, none, none, none] [13])) (g := fun x => .lst ((lbase a b).map Ln.d ++ [x, .tup [a.d, a.d, .tup [.str sSame]]])) ck (xs := (oddX a b).map Ln.d) (fun d hd => by
      refine step_no rfl ?_
      simp [wipe, lD, binD, items, lbase])
    unfold compD
    dsimp only
    rw [g]
    congr 2
  have e7 : evS (callN Φ n) s107_7 [some a.d, some b.d, some Re.empty.d, some (lD (lbase a b)), some (.ref S3.length), none, some (pE a).d, some (pE b).d, v8, v9, v10, v11, v12, none, none, none] (S3 ++ [.lst ((oddX a b).map Ln.d)]) = .nx [some a.d, some b.d, some Re.empty.d, some (lD (lbase a b)), some (.ref S3.length), some (.lst ((oddA a b).map lD)), some (pE a).d, some (pE b).d, v8, v9, v10, v11, v12, none, none, none] (S3 ++ [.lst ((oddX a b).map Ln.d)]) := by
    have vl : valD (.ref S3.length) (S3 ++ [.lst ((oddX a b).map Ln.d)]) = .ok ⟨[(S3.length, Ob.lst ((oddX a b).map Ln.d))], (oddX a b).map Ln.d⟩ (S3 ++ [.lst ((oddX a b).map Ln.d)]) := by
      simp [valD, srcOf]
    simp only [s107_7, evS_asg, ev_comp, evi_val, ev_var, getS_succ, getS_zero, Out.ok_bind, vl, cm, Out.so_ok, asg_name, setAt_succ, setAt_zero]
  have ln : (oddA a b).length = 24 := rfl
  have e8 : evS (callN Φ n) s107_8 [some a.d, some b.d, some Re.empty.d, some (lD (lbase a b)), some (.ref S3.length), some (.lst ((oddA a b).map lD)), some (pE a).d, some (pE b).d, v8, v9, v10, v11, v12, none, none, none] (S3 ++ [.lst ((oddX a b).map Ln.d)]) = .ret (.lst (oddLots a b)) (S3 ++ [.lst ((oddX a b).map Ln.d)]) := by
    have lb : lD (lbase a b) = .lst [(⟨pE a, a, .rul⟩ : Ln).d, (⟨pE b, b, .rul⟩ : Ln).d, (⟨a, pE a, .tur 0⟩ : Ln).d] := rfl
    rw [lb]
    simp [s107_8, binD, items, ln, oddLots, oddS, oddZ, lD, lbase, Ln.d, Rs.d]
  have fl : flat (.lst (oddLots a b)) = true := by
    have fx : ∀ xs : List Ln, (∀ x ∈ xs, x.q) → flat (lD xs) = true := fun xs h => by
      show flats (xs.map Ln.d) = true
      exact (sql_all (a := 9) (w := 2303) fun d hd => by obtain ⟨x, hx, rfl⟩ := List.mem_map.mp hd; exact (h x hx).sq).fl
    have fs : ∀ ds : List D, (∀ d ∈ ds, flat d = true) → flats ds = true := fun ds h => by
      induction ds with
      | nil => rfl
      | cons d ds ih => show (flat d && flats ds) = true; rw [h d List.mem_cons_self, ih fun e he => h e (List.mem_cons_of_mem _ he)]; rfl
    have lo := lot_odd ha hb
    refine fs _ fun d hd => ?_
    have key : ∀ xs, xs ∈ oddA a b ++ [[⟨a, a, .lsame⟩], oddZ a b] → flat (lD xs) = true := fun xs h => (lo xs h).dt.fl
    rcases List.mem_append.mp hd with hd | hd
    · obtain ⟨xs, h, rfl⟩ := List.mem_map.mp hd
      exact key xs (List.mem_append.mpr (.inl h))
    · simp only [List.mem_cons, List.not_mem_nil, or_false] at hd
      rcases hd with rfl | rfl | rfl
      · exact key _ (List.mem_append.mpr (.inr (by simp)))
      · have := ha.sq.fl
        simp [oddS, flat, flats, this]
      · exact key _ (List.mem_append.mpr (.inr (by simp)))
  have go : evSs (callN Φ n) f107_L_odd_lots.body (start f107_L_odd_lots [a.d, b.d]) S = .ret (.lst (oddLots a b)) (S3 ++ [.lst ((oddX a b).map Ln.d)]) := by
    rw [b107, st]
    simp only [evSs_cons, e0, thenS_nx, e1, e2, e3, hS1, e4, e5, e6, e7, e8, thenS_ret]
  rw [call_ret' P.h107 ⟨rfl, by decide⟩ go, ← hS3, ← hS2, ← hS1]
  simp only [List.append_assoc]
  rw [gc_flat fl]
end SL
set_option Elab.async false
set_option linter.all false
set_option maxRecDepth 100000
set_option maxHeartbeats 4000000
/-! E11: right lots, told patterns. -/
namespace SL
open PySem
variable {Φ : Nat → Option Def}
def body457 : Ss := .cons (.ifs (.not (.call 456 (.cons (.lst (.cons (.tup (.cons (.var 0) (.cons (.var 2) (.cons (.tup (.cons (.cst (.str [116, 111, 108, 100])) (.cons (.var 4) .nil))) .nil)))) .nil)) (.cons (.var 0) (.cons (.var 2) (.cons (.var 5) .nil)))))) (.cons (.ret (.cst (.bl false))) .nil) .nil) (.cons (.ifs (.not (.call 456 (.cons (.lst (.cons (.tup (.cons (.var 0) (.cons (.var 0) (.cons (.tup (.cons (.cst (.str [115, 97, 109, 101])) .nil)) .nil)))) (.cons (.tup (.cons (.var 2) (.cons (.var 0) (.cons (.tup (.cons (.cst (.str [116, 111, 108, 100])) (.cons (.var 4) .nil))) .nil)))) .nil))) (.cons (.var 2) (.cons (.var 0) (.cons (.var 5) .nil)))))) (.cons (.ret (.cst (.bl false))) .nil) .nil) .nil)
theorem b457 : f457_L_told_good.body = (.cons (.asg (.name 2) (.tup (.cons (.cst (.str [110, 111, 110, 101])) .nil))) (.cons (.asg (.name 3) (.lst (.cons (.tup (.cons (.cst (.int 0)) (.cons (.lst (.cons (.var 1) .nil)) .nil))) (.cons (.tup (.cons (.cst (.int 0)) (.cons (.lst .nil) .nil))) (.cons (.tup (.cons (.cst (.bl false)) (.cons (.lst (.cons (.var 0) .nil)) .nil))) (.cons (.tup (.cons (.cst (.int 1)) (.cons (.lst (.cons (.var 1) (.cons (.var 0) .nil))) .nil))) (.cons (.tup (.cons (.cst (.int 1)) (.cons (.lst (.cons (.var 0) .nil)) .nil))) (.cons (.tup (.cons (.cst (.int 0)) (.cons (.lst (.cons (.var 0) (.cons (.var 1) .nil))) .nil))) (.cons (.tup (.cons (.neg (.cst (.int 1))) (.cons (.lst (.cons (.var 0) .nil)) .nil))) (.cons (.tup (.cons (.cst (.int 0)) (.cons (.tup (.cons (.var 0) .nil)) .nil))) (.cons (.tup (.cons (.cst (.bl true)) (.cons (.lst (.cons (.var 1) (.cons (.var 0) .nil))) .nil))) .nil))))))))))) (.cons (.fors (.tup [4, 5]) (.val (.bin .add (.var 3) (.lst (.cons (.tup (.cons (.cst (.int 0)) (.cons (.tup (.cons (.var 1) (.cons (.var 0) .nil))) .nil))) (.cons (.tup (.cons (.cst (.str [48])) (.cons (.lst (.cons (.var 0) .nil)) .nil))) (.cons (.tup (.cons (.cst .non) (.cons (.lst (.cons (.var 0) .nil)) .nil))) .nil)))))) body457) (.cons (.ret (.cst (.bl true))) .nil)))) := rfl
def rightX (a b : Re) : List Ln := [⟨pE a, pE a, .chn 0 2⟩, ⟨a, a, .chn 2 0⟩, ⟨.star (pE a), .star a, .str 0⟩, ⟨mk2 true (pE a) (pE b), mk2 true a b, .two true 0 1⟩, ⟨mk2 false (pE b) (pE a), mk2 false b a, .two false 1 0⟩, ⟨mk2 true a a, mk2 true (pE a) (pE a), .two true 2 2⟩, ⟨b, pE b, .tur 1⟩]
def rightL (a b : Re) : List (List Ln) := (rightX a b).map fun x => lbase a b ++ [x]
theorem right_val (P : PhiO Φ) {a b : Re} (N : Nat) (hN : 1 ≤ N) (S : Sto) : callN Φ N 109 [a.d, b.d] S = .ok (.lst ((rightL a b).map lD)) S := by
  obtain ⟨n, rfl, hn⟩ := pre_pos (k := 0) hN
  refine call_ret P.h109 ⟨rfl, by decide⟩ ?_
  generalize hx : a.d = x
  generalize hy : b.d = y
  simp only [rightL, rightX, lbase, lD, Ln.d, Rs.d, pE, mk2, Re.d, if_true, Bool.false_eq_true, if_false, List.map_cons, List.map_nil, List.cons_append, List.nil_append, hx, hy]
  simp [f109_L_right_lots, start, parD, setAll, binD, items, compD, compL, chk_nil, stepD, wipe]
theorem right_true (a b : Re) : ∀ xs ∈ rightL a b, allH [] [] xs = true := by
  have h0 : ∀ x, hold [] (lbase a b) x = true → allH [] [] (lbase a b ++ [x]) = true := fun x h => by
    have e : allH [] [] (lbase a b ++ [x]) = (hold [] [] ⟨pE a, a, .rul⟩ && (hold [] [⟨pE a, a, .rul⟩] ⟨pE b, b, .rul⟩ && (hold [] [⟨pE a, a, .rul⟩, ⟨pE b, b, .rul⟩] ⟨a, pE a, .tur 0⟩ && (hold [] (lbase a b) x && true)))) := rfl
    rw [e, h]
    simp [hold, pE, nth, inb]
  intro xs hx
  obtain ⟨x, hm, rfl⟩ := List.mem_map.mp hx
  refine h0 x ?_
  simp only [rightX, List.mem_cons, List.not_mem_nil, or_false] at hm
  rcases hm with rfl | rfl | rfl | rfl | rfl | rfl | rfl <;> simp [hold, nth, inb, lbase]
theorem lot_right {a b : Re} (ha : Bq a) (hb : Bq b) : ∀ xs ∈ rightL a b, Lot true [] xs ∧ Rq (lastL xs).l ∧ Rq (lastL xs).r := by
  have a7 := ha.r7
  have b7 := hb.r7
  have ap := ha.p
  have bp := hb.p
  intro xs hx
  obtain ⟨x, hm, rfl⟩ := List.mem_map.mp hx
  have q : x.q := by
    simp only [rightX, List.mem_cons, List.not_mem_nil, or_false] at hm
    rcases hm with rfl | rfl | rfl | rfl | rfl | rfl | rfl
    · exact ⟨ap.rq, ap.rq, by first | exact q_rul | exact q_sam | exact q_lsa | exact q_t0 | exact q_t1 | exact q_s0 | exact q_c02 | exact q_c20 | exact q_c01 | exact q_o01 | exact q_d01 | exact q_d10 | exact q_o22 | exact q_c3⟩
    · exact ⟨a7.rq, a7.rq, by first | exact q_rul | exact q_sam | exact q_lsa | exact q_t0 | exact q_t1 | exact q_s0 | exact q_c02 | exact q_c20 | exact q_c01 | exact q_o01 | exact q_d01 | exact q_d10 | exact q_o22 | exact q_c3⟩
    · exact ⟨ap.star, a7.star, by first | exact q_rul | exact q_sam | exact q_lsa | exact q_t0 | exact q_t1 | exact q_s0 | exact q_c02 | exact q_c20 | exact q_c01 | exact q_o01 | exact q_d01 | exact q_d10 | exact q_o22 | exact q_c3⟩
    · exact ⟨R7.two (o := true) ap bp, R7.two (o := true) a7 b7, by first | exact q_rul | exact q_sam | exact q_lsa | exact q_t0 | exact q_t1 | exact q_s0 | exact q_c02 | exact q_c20 | exact q_c01 | exact q_o01 | exact q_d01 | exact q_d10 | exact q_o22 | exact q_c3⟩
    · exact ⟨R7.two (o := false) bp ap, R7.two (o := false) b7 a7, by first | exact q_rul | exact q_sam | exact q_lsa | exact q_t0 | exact q_t1 | exact q_s0 | exact q_c02 | exact q_c20 | exact q_c01 | exact q_o01 | exact q_d01 | exact q_d10 | exact q_o22 | exact q_c3⟩
    · exact ⟨R7.two (o := true) a7 a7, R7.two (o := true) ap ap, by first | exact q_rul | exact q_sam | exact q_lsa | exact q_t0 | exact q_t1 | exact q_s0 | exact q_c02 | exact q_c20 | exact q_c01 | exact q_o01 | exact q_d01 | exact q_d10 | exact q_o22 | exact q_c3⟩
    · exact ⟨b7.rq, bp.rq, by first | exact q_rul | exact q_sam | exact q_lsa | exact q_t0 | exact q_t1 | exact q_s0 | exact q_c02 | exact q_c20 | exact q_c01 | exact q_o01 | exact q_d01 | exact q_d10 | exact q_o22 | exact q_c3⟩
  have e : lastL (lbase a b ++ [x]) = x := by simp [lastL]
  rw [e]
  refine ⟨Lot.of (fun y hy => ?_) (by simp [lbase]) (by simp [lbase]) (fun r hr => by cases hr) (by decide), q.l, q.r⟩
  rcases List.mem_append.mp hy with hy | hy
  · exact q_base ha hb y hy
  · rw [List.mem_singleton.mp hy]; exact q
structure Tp where
  k : Nb
  t : Bool
  ts : List Re
def Tp.d (x : Tp) : D := .tup [x.k.d, tldD x.t x.ts]
def tps0 (a b : Re) : List Tp := [⟨.int 0, false, [b]⟩, ⟨.int 0, false, []⟩, ⟨.bl false, false, [a]⟩, ⟨.int 1, false, [b, a]⟩, ⟨.int 1, false, [a]⟩, ⟨.int 0, false, [a, b]⟩, ⟨.int (-1), false, [a]⟩, ⟨.int 0, true, [a]⟩, ⟨.bl true, false, [b, a]⟩]
def tps1 (a b : Re) : List Tp := [⟨.int 0, true, [b, a]⟩, ⟨.txt, false, [a]⟩, ⟨.nul, false, [a]⟩]
theorem tp_ok {a b : Re} (ha : Bq a) (hb : Bq b) : ∀ x ∈ tps0 a b ++ tps1 a b, Sq 1 20 x.k.d ∧ (∀ r ∈ x.ts, Rq r) ∧ x.ts.length ≤ 4 := by
  have ra := ha.r7.rq
  have rb := hb.r7.rq
  have r1 : ∀ c, Rq c → ∀ r ∈ [c], Rq r := fun c h r hr => by rw [List.mem_singleton.mp hr]; exact h
  have r2 : ∀ c e, Rq c → Rq e → ∀ r ∈ [c, e], Rq r := fun c e h g r hr => by
    simp only [List.mem_cons, List.not_mem_nil, or_false] at hr
    rcases hr with rfl | rfl <;> assumption
  have i0 : Sq 1 20 (Nb.int 0).d := sq_of (by decide +kernel)
  have i1 : Sq 1 20 (Nb.int 1).d := sq_of (by decide +kernel)
  have i2 : Sq 1 20 (Nb.int (-1)).d := sq_of (by decide +kernel)
  have i3 : Sq 1 20 (Nb.txt).d := sq_of (by decide +kernel)
  have i4 : Sq 1 20 (Nb.nul).d := sq_of (by decide +kernel)
  have i5 : ∀ c, Sq 1 20 (Nb.bl c).d := fun c => by cases c <;> exact sq_of (by decide +kernel)
  intro x hx
  rcases List.mem_append.mp hx with hx | hx
  · simp only [tps0, List.mem_cons, List.not_mem_nil, or_false] at hx
    rcases hx with rfl | rfl | rfl | rfl | rfl | rfl | rfl | rfl | rfl
    · exact ⟨i0, r1 _ rb, by simp⟩
    · exact ⟨i0, (by intro r hr; cases hr), by simp⟩
    · exact ⟨i5 _, r1 _ ra, by simp⟩
    · exact ⟨i1, r2 _ _ rb ra, by simp⟩
    · exact ⟨i1, r1 _ ra, by simp⟩
    · exact ⟨i0, r2 _ _ ra rb, by simp⟩
    · exact ⟨i2, r1 _ ra, by simp⟩
    · exact ⟨i0, r1 _ ra, by simp⟩
    · exact ⟨i5 _, r2 _ _ rb ra, by simp⟩
  · simp only [tps1, List.mem_cons, List.not_mem_nil, or_false] at hx
    rcases hx with rfl | rfl | rfl
    · exact ⟨i0, r2 _ _ rb ra, by simp⟩
    · exact ⟨i3, r1 _ ra, by simp⟩
    · exact ⟨i4, r1 _ ra, by simp⟩
theorem told_good (P : PhiO Φ) {a b : Re} (ha : Bq a) (hb : Bq b) (N : Nat) (hN : 36 ≤ N) (S : Sto) : callN Φ N 457 [a.d, b.d] S = .ok (.bl true) S := by
  obtain ⟨n, rfl, hn⟩ := pre_pos (k := 35) hN
  refine call_ret P.h457 ⟨rfl, by decide⟩ ?_
  have ra := ha.r7.rq
  obtain ⟨f', lp, v4, v5, rfl⟩ := forL_inv (bd := forB (.tup [4, 5]) (evSs (callN Φ n) body457)) (I := fun f => ∃ v4 v5, f = [some a.d, some b.d, some Re.none.d, some (.lst ((tps0 a b).map Tp.d)), v4, v5]) (S := S) (xs := (tps0 a b ++ tps1 a b).map Tp.d) (f := [some a.d, some b.d, some Re.none.d, some (.lst ((tps0 a b).map Tp.d)), none, none])
    (fun d hd f hf => by
      obtain ⟨v4, v5, rfl⟩ := hf
      obtain ⟨x, hx, rfl⟩ := List.mem_map.mp hd
      obtain ⟨h1, h2, h3⟩ := tp_ok ha hb x hx
      have st : Sq 2 100 (Rs.tld x.k).d := (sq_tup (sql_cons (sq_str (s := sTold) rfl) (sql_cons h1 sql_nil))).wd (by decide)
      have g1 := goodL_val P.l (t := x.t) (ts := x.ts) (xs := [⟨a, .none, .tld x.k⟩]) (Lot.of (fun y hy => by rw [List.mem_singleton.mp hy]; exact ⟨ra, none_rq, st⟩) (by simp) (by simp) h2 h3) ra.s30 none_rq.s30 ra.wt none_rq.wt n hn S
      have g2 := goodL_val P.l (t := x.t) (ts := x.ts) (xs := [⟨a, a, .same⟩, ⟨.none, a, .tld x.k⟩]) (Lot.of (fun y hy => by
        simp only [List.mem_cons, List.not_mem_nil, or_false] at hy
        rcases hy with rfl | rfl
        · exact ⟨ra, ra, by first | exact q_rul | exact q_sam | exact q_lsa | exact q_t0 | exact q_t1 | exact q_s0 | exact q_c02 | exact q_c20 | exact q_c01 | exact q_o01 | exact q_d01 | exact q_d10 | exact q_o22 | exact q_c3⟩
        · exact ⟨none_rq, ra, st⟩) (by simp) (by simp) h2 h3) none_rq.s30 ra.s30 none_rq.wt ra.wt n hn S
      simp only [List.map_cons, List.map_nil, Ln.d, Rs.d] at g1 g2
      refine ⟨_, ?_, some x.k.d, some (tldD x.t x.ts), rfl⟩
      simp [forB, Tp.d, bindTg, seqOf, setAll, body457, g1, g2]) ⟨none, none, rfl⟩
  rw [b457]
  have st : start f457_L_told_good [a.d, b.d] = [some a.d, some b.d, none, none, none, none] := rfl
  rw [st]
  have e0 : (Re.none).d = .tup [.str [110, 111, 110, 101]] := rfl
  have e1 : (tps0 a b).map Tp.d = [.tup [.int 0, .lst [b.d]], .tup [.int 0, .lst []], .tup [.bl false, .lst [a.d]], .tup [.int 1, .lst [b.d, a.d]], .tup [.int 1, .lst [a.d]], .tup [.int 0, .lst [a.d, b.d]], .tup [.int (-1), .lst [a.d]], .tup [.int 0, .tup [a.d]], .tup [.bl true, .lst [b.d, a.d]]] := rfl
  have e2 : (tps0 a b ++ tps1 a b).map Tp.d = [.tup [.int 0, .lst [b.d]], .tup [.int 0, .lst []], .tup [.bl false, .lst [a.d]], .tup [.int 1, .lst [b.d, a.d]], .tup [.int 1, .lst [a.d]], .tup [.int 0, .lst [a.d, b.d]], .tup [.int (-1), .lst [a.d]], .tup [.int 0, .tup [a.d]], .tup [.bl true, .lst [b.d, a.d]], .tup [.int 0, .tup [b.d, a.d]], .tup [.str [48], .lst [a.d]], .tup [.non, .lst [a.d]]] := rfl
  rw [e0, e1, e2] at lp
  simp [binD, items, lp]
end SL
set_option Elab.async false
set_option linter.all false
set_option maxRecDepth 100000
set_option maxHeartbeats 4000000
/-! E12: law k13. -/
namespace SL
open PySem
variable {Φ : Nat → Option Def}
def bodyOdd : Ss := (.cons (.ifs (.not (.call 456 (.cons (.var 5) (.cons (.var 6) (.cons (.var 6) (.cons (.tup .nil) .nil)))))) (.cons (.ret (.cst (.bl false))) .nil) .nil) .nil)
def bodyRig : Ss := (.cons (.par [2, 8] (.cons (.sub (.sub (.var 5) (.neg (.cst (.int 1)))) (.cst (.int 0))) (.cons (.sub (.sub (.var 5) (.neg (.cst (.int 1)))) (.cst (.int 1))) .nil))) (.cons (.ifs (.or (.not (.call 456 (.cons (.var 5) (.cons (.var 2) (.cons (.var 8) (.cons (.tup .nil) .nil)))))) (.notB true (.callD 452 (.cons (.var 5) (.cons (.var 2) (.cons (.var 8) .nil)))))) (.cons (.ret (.cst (.bl false))) .nil) .nil) (.cons (.ifs (.and (.cmp .ne (.var 2) (.var 8)) (.notB false (.callD 452 (.cons (.var 5) (.cons (.var 8) (.cons (.var 2) .nil)))))) (.cons (.ret (.cst (.bl false))) .nil) .nil) .nil)))
def t13_0 : S := (.asg (.name 3) (.call 12 (.cons (.var 0) (.cons (.var 1) .nil))))
def t13_1 : S := (.asg (.name 4) (.call 14 (.cons (.var 3) .nil)))
def t13_2 : S := (.par [6, 7] (.cons (.call 17 (.cons (.var 3) (.cons (.var 4) (.cons (.cst (.int 2)) .nil)))) (.cons (.call 17 (.cons (.var 3) (.cons (.var 4) (.cons (.cst (.int 2)) .nil)))) .nil)))
def t13_3 : S := (.ifs (.cmp .eq (.var 6) (.var 7)) (.cons (.asg (.name 7) (.tup (.cons (.cst (.str [115, 116, 97, 114])) (.cons (.var 7) .nil)))) .nil) .nil)
def t13_4 : S := (.fors (.name 5) (.val (.call 107 (.cons (.var 6) (.cons (.var 7) .nil)))) bodyOdd)
def t13_5 : S := (.fors (.name 5) (.val (.call 109 (.cons (.var 6) (.cons (.var 7) .nil)))) bodyRig)
def t13_6 : S := (.ifs (.not (.call 457 (.cons (.var 6) (.cons (.var 7) .nil)))) (.cons (.ret (.cst (.bl false))) .nil) .nil)
def bodyK13 : Ss := (.cons t13_0 (.cons t13_1 (.cons t13_2 (.cons t13_3 (.cons t13_4 (.cons t13_5 (.cons t13_6 .nil)))))))
def u13_0 : S := (.fors (.name 1) (.range1 (.blt .max (.cons (.cst (.int 2)) (.cons (.blt .min (.cons (.blt .len (.cons (.var 0) .nil)) (.cons (.cst (.int 5)) .nil))) .nil)))) bodyK13)
def u13_1 : S := (.asg (.name 2) (.tup (.cons (.cst (.str [115, 105, 103, 110])) (.cons (.cst (.str [97])) .nil))))
def u13_2 : S := (.ret (.cmp .eq (.comp (.var 5) (.name 5) (.val (.call 107 (.cons (.var 2) (.cons (.tup (.cons (.cst (.str [115, 105, 103, 110])) (.cons (.cst (.str [98])) .nil))) .nil)))) (.yes (.callD 452 (.cons (.var 5) (.cons (.var 2) (.cons (.var 2) .nil))))) [5]) (.lst .nil)))
theorem b13 : f0_k13.body = (.cons u13_0 (.cons u13_1 (.cons u13_2 .nil))) := rfl

structure Phi13 (Φ : Nat → Option Def) : Prop where
  o : PhiO Φ
  d : PhiD Φ
  h17 : Φ 17 = some f17_L_drawn
  h0 : Φ 0 = some f0_k13
theorem odd_good (P : PhiO Φ) {a b : Re} (ha : Bq a) (hb : Bq b) (N : Nat) (hN : 35 ≤ N) (S : Sto) : ∀ d ∈ oddLots a b, callN Φ N 456 [d, a.d, a.d, .tup []] S = .ok (.bl true) S := by
  have lo := lot_odd ha hb
  have ra := ha.r7.rq
  have key : ∀ xs, xs ∈ oddA a b ++ [[⟨a, a, .lsame⟩], oddZ a b] → callN Φ N 456 [lD xs, a.d, a.d, .tup []] S = .ok (.bl true) S := fun xs h => goodL_val P.l (lo xs h) ra.s30 ra.s30 ra.wt ra.wt N hN S
  intro d hd
  rcases List.mem_append.mp hd with hd | hd
  · obtain ⟨xs, h, rfl⟩ := List.mem_map.mp hd
    exact key xs (List.mem_append.mpr (.inl h))
  · simp only [List.mem_cons, List.not_mem_nil, or_false] at hd
    rcases hd with rfl | rfl | rfl
    · exact key _ (List.mem_append.mpr (.inr (by simp)))
    · exact (goodS_val P.l ha N hN S).1
    · exact key _ (List.mem_append.mpr (.inr (by simp)))
theorem pt_bq {x : D} (h : Pt 4 x) : ∃ r : Re, x = r.d ∧ r.ok ∧ Sq 5 310 r.d := by
  obtain ⟨r, rfl, hr⟩ := isP_re 64 x (by have := h.dep; omega) h.p
  obtain ⟨ds, e, hl, hx, hs⟩ := h.sq
  exact ⟨r, rfl, hr, hx⟩
theorem k13_turn (P : Phi13 Φ) {N : Nat} (hN : 40 ≤ N) {ns : List Int} {k : Nat} {b c d e g i j l : Option D} {S : Sto} : ∃ c' d' e' g' i' j' l' S', forB (.name 1) (evSs (callN Φ N) bodyK13) (.int k) [some (.scr ns), b, c, d, e, g, i, j, l] S = .nx [some (.scr ns), some (.int k), c', d', e', g', i', j', l'] S' := by
  obtain ⟨n2, hn2⟩ : ∃ n, N = n + 2 := ⟨N - 2, by omega⟩
  obtain ⟨p, c1⟩ := pile_ok P.d (n := n2) (ns := ns) (k := k) (S := S)
  rw [← hn2] at c1
  have hp : (S ++ [Ob.lst [.int p]])[S.length]? = some (.lst [.int p]) := by simp
  obtain ⟨L, S2, c2, hL, e2⟩ := letters_gen P.d (N := N) hp (by omega)
  obtain ⟨p2, hp2⟩ := e2.pile
  obtain ⟨x, S3, c3, hx, p3, hp3⟩ := drawn_gen P.d P.h17 (N := N) (most := 2) hp2 hL (by decide) (by omega)
  obtain ⟨y, S4, c4, hy, p4, hp4⟩ := drawn_gen P.d P.h17 (N := N) (most := 2) hp3 hL (by decide) (by omega)
  have c3 : callN Φ N 17 [.ref S.length, .str L, .int 2] S2 = .ok x S3 := c3
  have c4 : callN Φ N 17 [.ref S.length, .str L, .int 2] S3 = .ok y S4 := c4
  obtain ⟨ra, rfl, oa, sa⟩ := pt_bq hx
  obtain ⟨rb, rfl, ob, sb⟩ := pt_bq hy
  have ha : Bq ra := ⟨oa, (sa.up (by decide)).wd (by decide)⟩
  have hb : Bq rb := ⟨ob, (sb.up (by decide)).wd (by decide)⟩
  have hst : Bq (.star rb) := ⟨ob, (sq_tup (sql_cons (sq_str (s := sStar) rfl) (sql_cons sb sql_nil))).wd (by decide)⟩
  have a0 : evS (callN Φ N) t13_0 [some (.scr ns), some (.int k), c, d, e, g, i, j, l] S = .nx [some (.scr ns), some (.int k), c, some (.ref S.length), e, g, i, j, l] (S ++ [Ob.lst [.int p]]) := by simp [t13_0, c1]
  have a1 : evS (callN Φ N) t13_1 [some (.scr ns), some (.int k), c, some (.ref S.length), e, g, i, j, l] (S ++ [Ob.lst [.int p]]) = .nx [some (.scr ns), some (.int k), c, some (.ref S.length), some (.str L), g, i, j, l] S2 := by simp [t13_1, c2]
  have a2 : evS (callN Φ N) t13_2 [some (.scr ns), some (.int k), c, some (.ref S.length), some (.str L), g, i, j, l] S2 = .nx [some (.scr ns), some (.int k), c, some (.ref S.length), some (.str L), g, some ra.d, some rb.d, l] S4 := by simp [t13_2, c3, c4, parD, setAll]
  have ce := re_cmp ha.r7.rq.s30.dt hb.r7.rq.s30.dt S4
  have a3 : ∃ b' : Re, Bq b' ∧ evS (callN Φ N) t13_3 [some (.scr ns), some (.int k), c, some (.ref S.length), some (.str L), g, some ra.d, some rb.d, l] S4 = .nx [some (.scr ns), some (.int k), c, some (.ref S.length), some (.str L), g, some ra.d, some b'.d, l] S4 := by
    by_cases z : ra = rb
    · rw [decide_eq_true z] at ce
      exact ⟨.star rb, hst, by simp [t13_3, ce, Re.d]⟩
    · rw [decide_eq_false z] at ce
      exact ⟨rb, hb, by simp [t13_3, ce]⟩
  obtain ⟨b', hb', a3⟩ := a3
  have og := odd_good P.o ha hb' N (by omega) S4
  obtain ⟨f5, l5, g5, rfl⟩ := forL_inv (bd := forB (.name 5) (evSs (callN Φ N) bodyOdd)) (I := fun f => ∃ g, f = [some (.scr ns), some (.int k), c, some (.ref S.length), some (.str L), g, some ra.d, some b'.d, l]) (S := S4) (xs := oddLots ra b') (f := [some (.scr ns), some (.int k), c, some (.ref S.length), some (.str L), g, some ra.d, some b'.d, l])
    (fun y hy f hf => by
      obtain ⟨g, rfl⟩ := hf
      refine ⟨_, ?_, some y, rfl⟩
      simp [forB, bodyOdd, og y hy]) ⟨g, rfl⟩
  have a4 : evS (callN Φ N) t13_4 [some (.scr ns), some (.int k), c, some (.ref S.length), some (.str L), g, some ra.d, some b'.d, l] S4 = .nx [some (.scr ns), some (.int k), c, some (.ref S.length), some (.str L), g5, some ra.d, some b'.d, l] S4 := by
    simp only [t13_4, evS_fors, evi_val, ev_call, evs_cons, evs_nil, ev_var, getS_succ, getS_zero, Out.ok_bind, odd_val P.o ha hb' N (by omega) S4, val_lst, Out.so_ok, l5]
  have nb : ∀ T, notBD true (.bl true) T = .ok (.bl false) T := fun _ => rfl
  have nb2 : ∀ T, notBD false (.bl false) T = .ok (.bl false) T := fun _ => rfl
  obtain ⟨f6, l6, g6, h6, i6, rfl⟩ := forL_inv (bd := forB (.name 5) (evSs (callN Φ N) bodyRig)) (I := fun f => ∃ g h i, f = [some (.scr ns), some (.int k), h, some (.ref S.length), some (.str L), g, some ra.d, some b'.d, i]) (S := S4) (xs := (rightL ra b').map lD) (f := [some (.scr ns), some (.int k), c, some (.ref S.length), some (.str L), g5, some ra.d, some b'.d, l])
    (fun y hy f hf => by
      obtain ⟨g, h, i, rfl⟩ := hf
      obtain ⟨xs, hx, rfl⟩ := List.mem_map.mp hy
      obtain ⟨lot, rl, rr⟩ := lot_right ha hb' xs hx
      have rt := right_true ra b' xs hx
      have g1 : callN Φ N 456 [lD xs, (lastL xs).l.d, (lastL xs).r.d, .tup []] S4 = .ok (.bl true) S4 := goodL_val P.o.l lot rl.s30 rr.s30 rl.wt rr.wt N (by omega) S4
      have g2 : callN Φ N 452 [lD xs, (lastL xs).l.d, (lastL xs).r.d, .tup []] S4 = _ := is_val P.o.l lot rl.s30 rr.s30 rl.wt rr.wt N (by omega) S4
      have g3 : callN Φ N 452 [lD xs, (lastL xs).r.d, (lastL xs).l.d, .tup []] S4 = _ := is_val P.o.l lot rr.s30 rl.s30 rr.wt rl.wt N (by omega) S4
      have en : ends xs (lastL xs).l (lastL xs).r = true := by simp [ends]
      rw [rt, en] at g2
      rw [rt] at g3
      have sl : subD (lD xs) (.int (-1)) S4 = .ok (.tup [(lastL xs).l.d, (lastL xs).r.d, (lastL xs).rs.d]) S4 := sub_last lot.ne S4
      have cn := re_cmpn rl.s30.dt rr.s30.dt S4
      refine ⟨[some (.scr ns), some (.int k), some (lastL xs).l.d, some (.ref S.length), some (.str L), some (lD xs), some ra.d, some b'.d, some (lastL xs).r.d], ?_, some (lD xs), some (lastL xs).l.d, some (lastL xs).r.d, rfl⟩
      by_cases z : (lastL xs).l = (lastL xs).r
      · rw [decide_eq_true z] at cn
        simp only [Bool.and_self] at g2
        simp [forB, bodyRig, sl, sub0, sub1, parD, setAll, g1, g2, nb, cn]
      · rw [decide_eq_false z] at cn
        have en2 : ends xs (lastL xs).r (lastL xs).l = false := by simp [ends, z]
        rw [en2] at g3
        simp only [Bool.and_self, Bool.and_false] at g2 g3
        simp [forB, bodyRig, sl, sub0, sub1, parD, setAll, g1, g2, g3, nb, nb2, cn]) ⟨g5, c, l, rfl⟩
  have a5 : evS (callN Φ N) t13_5 [some (.scr ns), some (.int k), c, some (.ref S.length), some (.str L), g5, some ra.d, some b'.d, l] S4 = .nx [some (.scr ns), some (.int k), h6, some (.ref S.length), some (.str L), g6, some ra.d, some b'.d, i6] S4 := by
    simp only [t13_5, evS_fors, evi_val, ev_call, evs_cons, evs_nil, ev_var, getS_succ, getS_zero, Out.ok_bind, right_val P.o N (by omega) S4, val_lst, Out.so_ok, l6]
  have a6 : evS (callN Φ N) t13_6 [some (.scr ns), some (.int k), h6, some (.ref S.length), some (.str L), g6, some ra.d, some b'.d, i6] S4 = .nx [some (.scr ns), some (.int k), h6, some (.ref S.length), some (.str L), g6, some ra.d, some b'.d, i6] S4 := by
    simp [t13_6, told_good P.o ha hb' N (by omega) S4]
  refine ⟨h6, some (.ref S.length), some (.str L), g6, some ra.d, some b'.d, i6, S4, ?_⟩
  simp only [forB, bodyK13, bind_name, setAt_succ, setAt_zero, evSs_cons, a0, a1, a2, a3, a4, a5, a6, thenS_nx, evSs_nil]
theorem odd_false : ∀ xs ∈ oddA (.sign 97) (.sign 98) ++ [[⟨.sign 97, .sign 97, .lsame⟩], oddZ (.sign 97) (.sign 98)], (allH [] [] xs && ends xs (.sign 97) (.sign 97)) = false := by decide +kernel
theorem k13_true (P : Phi13 Φ) (ns : List Int) : ∃ S, callN Φ 60 0 [.scr ns] [] = .ok (.bl true) S := by
  obtain ⟨v, hv, v0, v6⟩ : ∃ v : Int, bltD .max [.int 2, .int (if (5 : Int) < (ns.length : Int) then 5 else (ns.length : Int))] ([] : Sto) = .ok (.int v) [] ∧ 0 ≤ v ∧ v ≤ 1000 := by
    refine ⟨_, rfl, ?_, ?_⟩ <;> split <;> split <;> omega
  obtain ⟨f', S1, e1, b, c, d, e, g, i, j, l, rfl⟩ := forL_inv3 (bd := forB (.name 1) (evSs (callN Φ 59) bodyK13)) (I := fun f _ => ∃ b c d e g i j l, f = [some (.scr ns), b, c, d, e, g, i, j, l]) (S := []) (xs := upFrom 0 v.toNat) (f := [some (.scr ns), none, none, none, none, none, none, none, none])
    (fun y hy f S hf => by
      obtain ⟨b, c, d, e, g, i, j, l, rfl⟩ := hf
      obtain ⟨q, hq, rfl⟩ := List.mem_map.mp hy
      rw [show (0 : Int) + (q : Int) = (q : Int) from Int.zero_add _]
      obtain ⟨c', d', e', g', i', j', l', S', h⟩ := k13_turn P (N := 59) (by decide) (ns := ns) (k := q) (b := b) (c := c) (d := d) (e := e) (g := g) (i := i) (j := j) (l := l) (S := S)
      exact ⟨_, S', h, _, _, _, _, _, _, _, _, rfl⟩) ⟨none, none, none, none, none, none, none, none, rfl⟩
  have hlen : bltD .len [.scr ns] ([] : Sto) = .ok (.int ns.length) [] := by simp [bltD, seqOf]
  have hmin : bltD .min [.int (ns.length : Int), .int 5] ([] : Sto) = .ok (.int (if (5 : Int) < (ns.length : Int) then 5 else (ns.length : Int))) [] := rfl
  have sa : Bq (.sign 97) := ⟨by show 97 ∈ sigs; decide, sq_of (by decide +kernel)⟩
  have sb : Bq (.sign 98) := ⟨by show 98 ∈ sigs; decide, sq_of (by decide +kernel)⟩
  have ra := sa.r7.rq
  have ov := odd_val P.o sa sb 59 (by decide) S1
  have lo := lot_odd sa sb
  have key : ∀ y ∈ oddLots (.sign 97) (.sign 98), callN Φ 59 452 [y, (Re.sign 97).d, (Re.sign 97).d, .tup []] S1 = .ok (.bl false) S1 := by
    have k0 : ∀ xs, xs ∈ oddA (.sign 97) (.sign 98) ++ [[⟨.sign 97, .sign 97, .lsame⟩], oddZ (.sign 97) (.sign 98)] → callN Φ 59 452 [lD xs, (Re.sign 97).d, (Re.sign 97).d, .tup []] S1 = .ok (.bl false) S1 := fun xs h => by
      have v := is_val P.o.l (lo xs h) ra.s30 ra.s30 ra.wt ra.wt 59 (by decide) S1
      rw [odd_false xs h] at v
      exact v
    intro d hd
    rcases List.mem_append.mp hd with hd | hd
    · obtain ⟨xs, h, rfl⟩ := List.mem_map.mp hd
      exact k0 xs (List.mem_append.mpr (.inl h))
    · simp only [List.mem_cons, List.not_mem_nil, or_false] at hd
      rcases hd with rfl | rfl | rfl
      · exact k0 _ (List.mem_append.mpr (.inr (by simp)))
      · exact (goodS_val P.o.l sa 59 (by decide) S1).2
      · exact k0 _ (List.mem_append.mpr (.inr (by simp)))
  have A0 : evS (callN Φ 59) u13_0 [some (.scr ns), none, none, none, none, none, none, none, none] [] = .nx [some (.scr ns), b, c, d, e, g, i, j, l] S1 := by
    simp only [u13_0, evS_fors, evi_r1, ev_blt, evs_cons, evs_nil, ev_cst, ev_var, getS_zero, Out.ok_bind, hlen, hmin, hv, range_ok v0 v6, Out.so_ok, e1]
  have A1 : evS (callN Φ 59) u13_1 [some (.scr ns), b, c, d, e, g, i, j, l] S1 = .nx [some (.scr ns), b, some (Re.sign 97).d, d, e, g, i, j, l] S1 := by
    simp [u13_1, Re.d]
  have cm : compD (.name 5) (evO (callN Φ 59) (.yes (.callD 452 (.cons (.var 5) (.cons (.var 2) (.cons (.var 2) .nil)))))) (evE (callN Φ 59) (.var 5)) [5] [some (.scr ns), b, some (Re.sign 97).d, d, e, g, i, j, l] ⟨[], oddLots (.sign 97) (.sign 98)⟩ S1 = .ok (.lst []) S1 := by
    rw [compD_filter (fun _ => false) id fun y hy => ?_]
    · simp
    · exact step_yes (f' := [some (.scr ns), b, some (Re.sign 97).d, d, e, some y, i, j, l]) rfl (by simp [key y hy]) (fun h => by cases h)
  have ne : cmpD .eq (.lst []) (.lst []) S1 = .ok (.bl true) S1 := eq_nil (ds := []) ⟨rfl, by decide +kernel, by decide +kernel⟩ S1
  have sg : evE (callN Φ 59) (.tup (.cons (.cst (.str [115, 105, 103, 110])) (.cons (.cst (.str [98])) .nil))) [some (.scr ns), b, some (Re.sign 97).d, d, e, g, i, j, l] S1 = .ok (Re.sign 98).d S1 := by simp [Re.d]
  have A2 : evS (callN Φ 59) u13_2 [some (.scr ns), b, some (Re.sign 97).d, d, e, g, i, j, l] S1 = .ret (.bl true) S1 := by
    simp only [u13_2, evS_ret, ev_cmp, ev_comp, evi_val, ev_call, evs_cons, evs_nil, ev_var, getS_succ, getS_zero, Out.ok_bind, sg, ov, val_lst, cm]
    simp [ne]
  have st : start f0_k13 [.scr ns] = [some (.scr ns), none, none, none, none, none, none, none, none] := rfl
  have go : evSs (callN Φ 59) f0_k13.body (start f0_k13 [.scr ns]) [] = .ret (.bl true) S1 := by
    rw [b13, st]
    simp only [evSs_cons, A0, thenS_nx, A1, A2, thenS_ret]
  exact ⟨_, call_ret' P.h0 ⟨rfl, by decide⟩ go⟩
end SL
set_option Elab.async false
set_option linter.all false
set_option maxRecDepth 100000
set_option maxHeartbeats 0
namespace SL.k13
open SL
theorem phi_n : PhiN (PhiOf defs) := ⟨rfl, rfl, rfl, rfl, rfl, rfl, rfl⟩
theorem phi_h : PhiH (PhiOf defs) := ⟨phi_n, rfl, rfl, rfl, rfl, rfl, rfl, rfl, rfl⟩
theorem phi_l : PhiL (PhiOf defs) := ⟨phi_h, ⟨rfl, rfl⟩, ⟨rfl, rfl⟩, rfl, rfl, rfl, rfl, rfl, rfl⟩
theorem all_phi : Phi13 (PhiOf defs) := ⟨⟨phi_l, rfl, rfl, rfl⟩, ⟨rfl, rfl, rfl, rfl, rfl, rfl⟩, rfl, rfl⟩
theorem law_true (ns : List Int) (h : ns.length ≤ 63) : ∃ S, callN (PhiOf defs) 60 0 [.scr ns] [] = .ok (.bl true) S := k13_true all_phi ns
end SL.k13
open PySem PySem.W PySem.Calls PyProof.Rows
theorem PySem.Challenge.cw_starlines_k13_lines_with_wrong_ends_holds : PySem.Challenge.rw_starlines_k13_lines_with_wrong_ends.Holds := by
  w_on; o_law
  refine HandSHeadRun.head_any (r := OpenLaw.row PySem.Challenge.rw_starlines_k13_lines_with_wrong_ends) (q := view (OpenLaw.row PySem.Challenge.rw_starlines_k13_lines_with_wrong_ends).prog [55]) (H := SL.k13.hk) (ob := SL.k13.ob) (M := 30000) (loose := SL.k13.names) (d := HandSHeadRun.topDef (OpenLaw.row PySem.Challenge.rw_starlines_k13_lines_with_wrong_ends).prog 55) (kwd := []) SL.k13.ob_eq
    (by kernel_rfl) (fun s => by kernel_rfl) SL.k13.run (by kernel_rfl) (by kernel_rfl) (by kernel_rfl) (by rfl) (by first | assumption | decide +kernel) (by decide +kernel) ⟨rfl, rfl, rfl, rfl, rfl, by decide +kernel⟩ ?hw ?hc
  case hw => w_witness2
  case hc =>
    refine SL.walk_law (l := PySem.Challenge.rw_starlines_k13_lines_with_wrong_ends) (n := 63) (k := 60) (x := "_law_script") rfl (by decide) (by kernel_rfl) ⟨rfl, by decide, by decide⟩ fun w mg fa h Y G m0 => ?_
    obtain ⟨K, kx, c⟩ := Y
    have T := SL.k13.told c
    have nm : (HandSHeadRun.topDef (OpenLaw.row PySem.Challenge.rw_starlines_k13_lines_with_wrong_ends).prog 55).name = ("law" : PySem.Str) := by kernel_rfl
    rw [nm] at m0
    have e := m0.symm.trans (PySem.W.mg_of kx G (T.nm SL.k13.d_f0_k13 SL.k13.law_in))
    cases e
    obtain ⟨fd, hfd⟩ := T.fd SL.k13.d_f0_k13 SL.k13.law_in
    exact ⟨K, fd, SL.spF (SL.PhiOf SL.k13.defs) K (SL.Cof K) 60 0, kx, fun s v => L2.FunD.bindsA (ps := ["_law_script"]) hfd (SL.AllF.mem SL.k13.binds _ SL.k13.law_in) s [v] rfl, fun H a ns hl kz hS => SL.law_spec T SL.k13.law_in kz hS (SL.k13.law_true ns hl), fun bs kb gb => SL.allFn T kb gb SL.k13.binds SL.k13.phis SL.k13.checks 60 _ SL.k13.law_in fd hfd⟩
