import PyProof.Rows.All
import Wide.All
import OpenK.AllK
import Wide.FinOn
import PyProof.P3Statements
import PyProof.ReprReads
import PyProof.StrBlock
import PyProof.StrBlockL
import PyProof.Rows.StrNews2
import HandS.ForMost
import HandS.Exc
import HandS.ExcOwn
import HandS.ExcValue
import HandS.TupAny
import HandS.TupLe
import HandS.IsInst
import HandS.Wide
import HandS.Deep
import KE.DataFind
import HandS.TryOnly
import HandS.Style
import HandS.ExcIs
import HandS.ExcField
import HandS.ExcInit
import HandS.Defaults
import HandS.Walk
import HandS.Star
import HandS.HeadEnd
import HandS.HeadHook1
import HandS.HeadHook2
import HandS.HeadHook3
import HandS.HeadHook4
import HandS.Head0
import HandS.Head1
import HandS.Head2
import KE.KStateDown
import PyProof.Rows.RegFStrParts
import PySem.Challenge.RW_starlines_k60_patterns_written
set_option Elab.async false
set_option linter.all false
set_option maxRecDepth 100000
/-! A0: the pure meaning: data, store, expressions, statements. -/
namespace SL
open PySem

/-- data: what a Python value is, lists that nobody changes by value, others by their number in the store -/
inductive DK where
  | int (i : Int)
  | str (x : List Nat)
  deriving DecidableEq
inductive D where
  | non
  | bl (b : Bool)
  | int (i : Int)
  | str (x : List Nat)
  | tup (ds : List D)
  | lst (ds : List D)
  | scr (ns : List Int)
  | ref (k : Nat)
  | dct (ks : List DK) (ds : List D)

inductive Ob where
  | lst (ds : List D)
  | ins (c : Nat) (fs : List (Nat × D))
  | exc (c : Nat) (fs : List (Nat × D))
  | dct (ks : List DK) (ds : List D)

abbrev Sto := List Ob
abbrev FS := List (Option D)

inductive Out (α : Type) where
  | ok (a : α) (S : Sto)
  | exc (c : Nat) (fs : List (Nat × D)) (S : Sto)
  | bad

def Out.bind {α β : Type} (o : Out α) (f : α → Sto → Out β) : Out β :=
  match o with
  | .ok a S => f a S
  | .exc c fs S => .exc c fs S
  | .bad => .bad
@[simp] theorem Out.ok_bind {α β : Type} (a : α) (S : Sto) (f : α → Sto → Out β) : (Out.ok a S).bind f = f a S := rfl
@[simp] theorem Out.exc_bind {α β : Type} (c : Nat) (fs : List (Nat × D)) (S : Sto) (f : α → Sto → Out β) : (Out.exc c fs S).bind f = .exc c fs S := rfl
@[simp] theorem Out.bad_bind {α β : Type} (f : α → Sto → Out β) : (Out.bad : Out α).bind f = .bad := rfl

/-- the largest length -/
abbrev sz : Nat := 16777216

inductive Bop where
  | add | sub | mul | mod | fdiv | pow
inductive Cop where
  | eq | ne | lt | le | gt | ge | isin | notin
inductive Ty where
  | str | int | bool | tup | lst
  | own (c : Nat)
  | ve
inductive Blt where
  | len | int | str | repr | all | any | max | min | list | tuple | sum
inductive Mt where
  | join | append | count | index | insert | pop | find | partition | split

inductive Tg where
  | name (i : Nat)
  | tup (is : List Nat)

mutual
inductive E where
  | var (i : Nat)
  | cst (d : D)
  | glo (x : Nat)
  | tup (es : Es)
  | lst (es : Es)
  | newL (es : Es)
  | newC (es : Es)
  | bin (op : Bop) (a b : E)
  | cmp (op : Cop) (a b : E)
  | isN (a : E)
  | notN (a : E)
  | isB (b : Bool) (a : E)
  | notB (b : Bool) (a : E)
  | and (a b : E)
  | or (a b : E)
  | not (a : E)
  | neg (a : E)
  | ite (c a b : E)
  | sub (a i : E)
  | slc (a : E) (lo hi : Oe)
  | call (f : Nat) (es : Es)
  | blt (b : Blt) (es : Es)
  | isi (a : E) (ts : List Ty)
  | mth (m : Mt) (o : E) (es : Es)
  | fld (f : Nat) (o : E)
  | comp (elt : E) (tg : Tg) (it : It) (cond : Oe) (own : List Nat)
  | never
  | dnew
  | keys (i j : Nat)
  | disp (ks : List DK) (vs : Es)
  | dget (o e d : E)
  | callD (f : Nat) (es : Es)
  | newP (a b : E)
inductive Oe where
  | no
  | yes (e : E)
inductive Es where
  | nil
  | cons (e : E) (r : Es)
  | star (e : E) (r : Es)
inductive It where
  | val (e : E)
  | range1 (a : E)
  | range2 (a b : E)
  | zip (a b : E)
end

mutual
inductive S where
  | asg (tg : Tg) (e : E)
  | par (is : List Nat) (es : Es)
  | put (o i e : E)
  | aug (i : Nat) (op : Bop) (e : E)
  | augS (o i : E) (op : Bop) (e : E)
  | exp (e : E)
  | ret (e : E)
  | ifs (c : E) (a b : Ss)
  | whl (c : E) (a : Ss)
  | fors (tg : Tg) (it : It) (a : Ss)
  | brk
  | cont
  | raise (c : Nat) (es : Es)
  | trys (body : Ss) (c : Nat) (e v : Nat)
  | never
inductive Ss where
  | nil
  | cons (s : S) (r : Ss)
end

/-! ### keys of dicts -/
def dkOf : D → Option DK
  | .int i => some (.int i)
  | .str x => some (.str x)
  | _ => none
def dkD : DK → D
  | .int i => .int i
  | .str x => .str x
def kGet : List DK → List D → DK → Option D
  | k' :: ks, d :: ds, k => if k' = k then some d else kGet ks ds k
  | _, _, _ => none
def kSet : List DK → List D → DK → D → List D
  | k' :: ks, d :: ds, k, e => (if k' = k then e else d) :: kSet ks ds k e
  | _, ds, _, _ => ds
def kPutK (ks : List DK) (k : DK) : List DK := if k ∈ ks then ks else ks ++ [k]
def kPutD (ks : List DK) (ds : List D) (k : DK) (d : D) : List D := if k ∈ ks then kSet ks ds k d else ds ++ [d]

/-! ### the module's constants -/
/-- 0 SIGNS, 1 NONE, 2 EMPTY -/
def gloD : Nat → Option D
  | 0 => some (.str [97, 98, 99, 100, 101, 102, 103, 104])
  | 1 => some (.tup [.str [110, 111, 110, 101]])
  | 2 => some (.tup [.str [101, 109, 112, 116, 121]])
  | _ => none
def gname : Nat → Str
  | 0 => "SIGNS"
  | 1 => "NONE"
  | 2 => "EMPTY"
  | _ => ""
/-- 0 word, 1 line -/
def fname : Nat → Str
  | 0 => "word"
  | 1 => "line"
  | _ => ""
/-! ### plain data -/
def resL (f : D → Option PyData) : List D → Option (List PyData)
  | [] => some []
  | d :: ds => match f d, resL f ds with
    | some a, some b => some (a :: b)
    | _, _ => none
/-- the datum as a whole, lists of the store looked up -/
def res (S : Sto) : Nat → D → Option PyData
  | 0, _ => none
  | _ + 1, .non => some .none
  | _ + 1, .bl b => some (.bool b)
  | _ + 1, .int i => some (.int i)
  | _ + 1, .str x => some (.str ⟨x.toArray⟩)
  | n + 1, .tup ds => (resL (res S n) ds).map .tuple
  | n + 1, .lst ds => (resL (res S n) ds).map .list
  | _ + 1, .scr _ => none
  | _ + 1, .dct _ _ => none
  | n + 1, .ref k => match S[k]? with
    | some (.lst ds) => (resL (res S n) ds).map .list
    | _ => none
/-- nesting at most 64, texts of signs that are signs -/
def fit (d : PyData) : Bool := d.canLay0 && decide (d.depth ≤ 64)
def look (S : Sto) (d : D) : Option PyData := match res S 70 d with
  | some p => if fit p = true then some p else none
  | none => none

/-- the items of a list, by value or in the store -/
def items (S : Sto) : D → Option (List D)
  | .lst ds => some ds
  | .ref k => match S[k]? with
    | some (.lst ds) => some ds
    | _ => none
  | _ => none
/-- the items of a list or tuple -/
def seqOf (S : Sto) : D → Option (List D)
  | .tup ds => some ds
  | .scr ns => some (ns.map D.int)
  | d => items S d

/-- two texts, alike or not -/
def eqStr (a b : D) : Option Bool := match a, b with
  | .str x, .str y => some (decide (x = y))
  | _, _ => none
def eqLook (S : Sto) (a b : D) : Option Bool := match look S a, look S b with
  | some x, some y => some (PyData.eqv x y)
  | _, _ => none
def eqD (S : Sto) (a b : D) : Option Bool := match eqStr a b with
  | some r => some r
  | none => eqLook S a b

/-- i as a place of a list of n -/
def placeOf (i : Int) (n : Nat) : Option Nat :=
  if 0 ≤ i then (if i < n then some i.toNat else none)
  else if -(n : Int) ≤ i then some (i + n).toNat else none
/-- a bound of a slice -/
def cutAt (n : Nat) (dflt : Nat) : Option Int → Nat
  | none => dflt
  | some i => if i < 0 then (i + (n : Int)).toNat else min i.toNat n
def cut {α : Type} (xs : List α) (lo hi : Option Int) : List α :=
  (xs.drop (cutAt xs.length 0 lo)).take (cutAt xs.length xs.length hi - cutAt xs.length 0 lo)

def small (i : Int) : Bool := decide (-(2 ^ 64 : Int) < i) && decide (i < 2 ^ 64)
def wide (i : Int) : Bool := decide (i.natAbs < 2 ^ 100000)

def binD (op : Bop) (a b : D) (S : Sto) : Out D :=
  match op, a, b with
  | .add, .int i, .int j => .ok (.int (i + j)) S
  | .sub, .int i, .int j => .ok (.int (i - j)) S
  | .mul, .int i, .int j => if small i || small j || (wide i && wide j) then .ok (.int (i * j)) S else .bad
  | .mod, .int i, .int j => if 0 < j then .ok (.int (i % j)) S else .bad
  | .fdiv, .int i, .int j => if 0 < j ∧ j < 1073741824 then .ok (.int (i / j)) S else .bad
  | .pow, .int i, .int j => if 0 ≤ j ∧ j ≤ 1000000 ∧ small i = true then .ok (.int (i ^ j.toNat)) S else .bad
  | .add, .str x, .str y => if x.length + y.length ≤ sz then .ok (.str (x ++ y)) S else .bad
  | .add, .tup x, .tup y => if x.length + y.length ≤ sz then .ok (.tup (x ++ y)) S else .bad
  | .mul, .str x, .int j => if 0 ≤ j ∧ j ≤ 100000 ∧ x.length * j.toNat ≤ sz then .ok (.str (List.replicate j.toNat x).flatten) S else .bad
  | .mul, .lst x, .int j => if 0 ≤ j ∧ j ≤ 100000 ∧ x.length * j.toNat ≤ sz then .ok (.lst (List.replicate j.toNat x).flatten) S else .bad
  | .add, a, b => match items S a, items S b with
    | some x, some y => if x.length + y.length ≤ sz then .ok (.lst (x ++ y)) S else .bad
    | _, _ => .bad
  | _, _, _ => .bad

/-- one sign in a text -/
def signIn (a b : D) : Option Bool := match a, b with
  | .str [c], .str y => some (decide (c ∈ y))
  | _, _ => none
/-- x is one of the items of a list or tuple -/
def inSeq (S : Sto) (a b : D) : Option Bool := match look S a, seqOf S b with
  | some x, some ds => match resL (look S) ds with
    | some ys => some (ys.any fun y => PyData.eqv y x)
    | none => none
  | _, _ => none
/-- a dict, by value or in the store -/
def dictOf (S : Sto) : D → Option (List DK × List D)
  | .dct ks ds => some (ks, ds)
  | .ref k => match S[k]? with
    | some (.dct ks ds) => some (ks, ds)
    | _ => none
  | _ => none
def inDict (S : Sto) (a b : D) : Option Bool := match dictOf S b, dkOf a with
  | some kd, some q => some (decide (q ∈ kd.1))
  | _, _ => none
def inD (S : Sto) (a b : D) : Option Bool := match signIn a b with
  | some r => some r
  | none => match inSeq S a b with
    | some r => some r
    | none => inDict S a b
def ltD (a b : D) : Option Bool := match a, b with
  | .int i, .int j => some (decide (i < j))
  | .str x, .str y => some (decide (x < y))
  | _, _ => none
def leD (a b : D) : Option Bool := match a, b with
  | .int i, .int j => some (decide (i ≤ j))
  | _, _ => none
def boolD (o : Option Bool) (S : Sto) : Out D := match o with
  | some r => .ok (.bl r) S
  | none => .bad
def cmpD (op : Cop) (a b : D) (S : Sto) : Out D :=
  match op with
  | .eq => boolD (eqD S a b) S
  | .ne => boolD ((eqD S a b).map not) S
  | .lt => boolD (ltD a b) S
  | .le => boolD (leD a b) S
  | .gt => boolD (match a, b with
    | .int i, .int j => some (decide (j < i))
    | _, _ => none) S
  | .ge => boolD (leD b a) S
  | .isin => boolD (inD S a b) S
  | .notin => boolD ((inD S a b).map not) S

def dsubD (a i : D) (S : Sto) : Out D := match dictOf S a, dkOf i with
  | some kd, some q => match kGet kd.1 kd.2 q with
    | some d => .ok d S
    | none => .bad
  | _, _ => .bad
def subD (a i : D) (S : Sto) : Out D :=
  match i with
  | .int i => match a with
    | .str x => if x.length ≤ sz then match placeOf i x.length with
        | some k => match x[k]? with
          | some c => .ok (.str [c]) S
          | none => .bad
        | none => .bad
      else .bad
    | a => match seqOf S a with
      | some ds => match placeOf i ds.length with
        | some k => match ds[k]? with
          | some d => .ok d S
          | none => .bad
        | none => .bad
      | none => dsubD a (.int i) S
  | i => dsubD a i S

def slcD (a : D) (l h : Option Int) (S : Sto) : Out D :=
  match a with
  | .str x => if x.length ≤ sz then .ok (.str (cut x l h)) S else .bad
  | .tup ds => .ok (.tup (cut ds l h)) S
  | a => match items S a with
    | some ds => .ok (.lst (cut ds l h)) S
    | none => .bad

def bools : List D → Option (List Bool)
  | [] => some []
  | .bl b :: r => match bools r with
    | some bs => some (b :: bs)
    | none => none
  | _ => none
def intsOf : List D → Option (List Int)
  | [] => some []
  | .int b :: r => match intsOf r with
    | some bs => some (b :: bs)
    | none => none
  | _ => none
def texts : List D → Option (List (List Nat))
  | [] => some []
  | .str b :: r => match texts r with
    | some bs => some (b :: bs)
    | none => none
  | _ => none

def joined (sep : List Nat) : List (List Nat) → List Nat
  | [] => []
  | [x] => x
  | x :: y :: r => x ++ (sep ++ joined sep (y :: r))

def bltD (b : Blt) (ds : List D) (S : Sto) : Out D :=
  match b, ds with
  | .len, [.str x] => if x.length ≤ sz then .ok (.int x.length) S else .bad
  | .len, [d] => match seqOf S d with
    | some xs => .ok (.int xs.length) S
    | none => .bad
  | .int, [.int i] => .ok (.int i) S
  | .int, [.bl b] => .ok (.int (if b then 1 else 0)) S
  | .str, [.str x] => .ok (.str x) S
  | .str, [d] => match look S d with
    | some p => if p.showable = true ∧ p.shown.length ≤ sz then .ok (.str p.shown.cps.toList) S else .bad
    | none => .bad
  | .repr, [d] => match look S d with
    | some p => if p.showable = true ∧ p.shown.length ≤ sz then .ok (.str p.shown.cps.toList) S else .bad
    | none => .bad
  | .all, [d] => match items S d with
    | some ds => match bools ds with
      | some bs => .ok (.bl (bs.all id)) S
      | none => .bad
    | none => .bad
  | .any, [d] => match items S d with
    | some ds => match bools ds with
      | some bs => .ok (.bl (bs.any id)) S
      | none => .bad
    | none => .bad
  | .max, [.int i, .int j] => .ok (.int (if j > i then j else i)) S
  | .min, [.int i, .int j] => .ok (.int (if j < i then j else i)) S
  | .list, [d] => match seqOf S d with
    | some xs => .ok (.lst xs) S
    | none => .bad
  | .tuple, [d] => match seqOf S d with
    | some xs => .ok (.tup xs) S
    | none => .bad
  | _, _ => .bad

def mthD (m : Mt) (o : D) (ds : List D) (S : Sto) : Out D :=
  match m, o, ds with
  | .join, .str sep, [d] => match seqOf S d with
    | some xs => match texts xs with
      | some ts => if (ts.map List.length).sum + ts.length * sep.length ≤ sz then .ok (.str (joined sep ts)) S else .bad
      | none => .bad
    | none => .bad
  | .append, .ref k, [d] => match S[k]? with
    | some (.lst xs) => if xs.length < sz then .ok .non (S.set k (.lst (xs ++ [d]))) else .bad
    | _ => .bad
  | .count, o, [d] => match look S o, look S d with
    | some (.list ys), some x => .ok (.int ((ys.countP fun y => PyData.eqv y x : Nat) : Int)) S
    | _, _ => .bad
  | .index, o, [d] => match look S o, look S d with
    | some (.list ys), some x => match ys.findIdx? (fun y => PyData.eqv y x) with
      | some j => .ok (.int (j : Nat)) S
      | none => .bad
    | _, _ => .bad
  | .find, .str y, [.str x] => .ok (.int (Txt.find ⟨y.toArray⟩ ⟨x.toArray⟩)) S
  | .partition, .str y, [.str x] => if x ≠ [] ∧ y.length ≤ sz then .ok (.tup [.str (Txt.partition ⟨y.toArray⟩ ⟨x.toArray⟩).1.cps.toList, .str (Txt.partition ⟨y.toArray⟩ ⟨x.toArray⟩).2.1.cps.toList, .str (Txt.partition ⟨y.toArray⟩ ⟨x.toArray⟩).2.2.cps.toList]) S else .bad
  | .split, .str y, [.str x] => if x ≠ [] ∧ y.length + 2 ≤ sz then .ok (.lst ((Txt.split ⟨y.toArray⟩ ⟨x.toArray⟩).map fun z => .str z.cps.toList)) S else .bad
  | _, _, _ => .bad

/-- the method is one of a text -/
def mtTxt : Mt → Bool
  | .join => true
  | .find => true
  | .partition => true
  | .split => true
  | _ => false
/-- the method is one of the value's kind -/
def recv (m : Mt) (S : Sto) (d : D) : Bool := match mtTxt m with
  | true => match d with
    | .str _ => true
    | _ => false
  | _ => match d with
    | .lst _ => true
    | .ref k => match S[k]? with
      | some (.lst _) => true
      | _ => false
    | _ => false
/-- the class c is, or lies under, the class t (all own errors stand right under LinesError) -/
def under (c t : Nat) : Bool := c == t || t == 0
def isTy (S : Sto) (t : Ty) (d : D) : Option Bool :=
  match d with
  | .ref k => match S[k]?, t with
    | some (.lst _), .lst => some true
    | some (.lst _), _ => some false
    | some (.exc c _), .own c' => if c < 15 ∧ c' < 15 then some (under c c') else none
    | some (.exc c _), .ve => if c < 15 then some true else none
    | _, _ => none
  | .dct _ _ => none
  | d => match t, d with
    | .str, .str _ => some true
    | .int, .int _ => some true
    | .int, .bl _ => some true
    | .bool, .bl _ => some true
    | .tup, .tup _ => some true
    | .lst, .lst _ => some true
    | .lst, .scr _ => some true
    | _, _ => some false
def isTys (S : Sto) (d : D) : List Ty → Option Bool
  | [] => some false
  | t :: r => match isTy S t d, isTys S d r with
    | some a, some b => some (a || b)
    | _, _ => none

def setAt (f : FS) (i : Nat) (d : D) : FS := f.set i (some d)
def setAll (f : FS) : List Nat → List D → Option FS
  | [], [] => some f
  | i :: is, d :: ds => setAll (setAt f i d) is ds
  | _, _ => none
def bindTg (S : Sto) (tg : Tg) (d : D) (f : FS) : Option FS :=
  match tg with
  | .name i => some (setAt f i d)
  | .tup is => match seqOf S d with
    | some ds => setAll f is ds
    | none => none
def wipe (f : FS) : List Nat → FS
  | [] => f
  | i :: is => (wipe f is).set i none

/-- what is walked: its items, and what must stand in the store meanwhile -/
structure Src where
  chk : List (Nat × Ob)
  xs : List D
def Chk (c : List (Nat × Ob)) (S : Sto) : Prop := ∀ p ∈ c, S[p.1]? = some p.2
def srcOf (S : Sto) : D → Option Src
  | .tup ds => some ⟨[], ds⟩
  | .lst ds => some ⟨[], ds⟩
  | .scr ns => some ⟨[], ns.map D.int⟩
  | .str x => if x.length ≤ sz then some ⟨[], x.map fun c => .str [c]⟩ else none
  | .ref k => match S[k]? with
    | some (.lst ds) => some ⟨[(k, .lst ds)], ds⟩
    | _ => none
  | _ => none
def upFrom (lo : Int) (n : Nat) : List D := (List.range n).map fun (i : Nat) => D.int (lo + (i : Int))
def rangeD (lo hi : Int) : Option Src :=
  if -(2 ^ 24 : Int) ≤ lo ∧ lo ≤ 2 ^ 24 ∧ -(2 ^ 24 : Int) ≤ hi ∧ hi ≤ 2 ^ 24 ∧ hi - lo ≤ 2 ^ 24 then some ⟨[], upFrom lo (hi - lo).toNat⟩ else none

/-! ### steps of the meaning -/
def isND (x : D) : Bool := match x with
  | .non => true
  | _ => false
def isBD (b : Bool) (x : D) (S : Sto) : Out D := match x with
  | .bl k => .ok (.bl (k == b)) S
  | _ => .bad
def notBD (b : Bool) (x : D) (S : Sto) : Out D := match x with
  | .bl k => .ok (.bl (!(k == b))) S
  | _ => .bad
def andD (tb : FS → Sto → Out D) (f : FS) (x : D) (S : Sto) : Out D := match x with
  | .bl true => tb f S
  | .bl false => .ok (.bl false) S
  | _ => .bad
def orD (tb : FS → Sto → Out D) (f : FS) (x : D) (S : Sto) : Out D := match x with
  | .bl true => .ok (.bl true) S
  | .bl false => tb f S
  | _ => .bad
def iteD (ta tb : FS → Sto → Out D) (f : FS) (x : D) (S : Sto) : Out D := match x with
  | .bl true => ta f S
  | .bl false => tb f S
  | _ => .bad
def notD (x : D) (S : Sto) : Out D := match x with
  | .bl k => .ok (.bl (!k)) S
  | _ => .bad
def negD (x : D) (S : Sto) : Out D := match x with
  | .int k => .ok (.int (-k)) S
  | _ => .bad
def newD (d : D) (S : Sto) : Out D := match d with
  | .lst ds => .ok (.ref S.length) (S ++ [.lst ds])
  | _ => .bad
/-- a + b of lists, as a list of the store -/
def catD (a b : D) (S : Sto) : Out D := match items S a, items S b with
  | some x, some y => if x.length + y.length ≤ sz then .ok (.ref S.length) (S ++ [.lst (x ++ y)]) else .bad
  | _, _ => .bad
def dnewD (S : Sto) : Out D := .ok (.ref S.length) (S ++ [.dct [] []])
def keysD (x : D) (S : Sto) : Out D := match x with
  | .ref k => match S[k]? with
    | some (.dct ks _) => .ok (.lst (ks.map dkD)) S
    | _ => .bad
  | _ => .bad
def keysV (f : FS) (i j : Nat) (S : Sto) : Out D := match f[i]? with
  | some (some d) => if j < f.length then keysD d S else .bad
  | _ => .bad
def dispD (ks : List DK) (ds : List D) (S : Sto) : Out D := if ks.length = ds.length ∧ ks.length ≤ 15 ∧ ks.Nodup then .ok (.dct ks ds) S else .bad
def dgetD (kd : List DK × List D) (e d : D) (S : Sto) : Out D := match dkOf e with
  | some q => .ok ((kGet kd.1 kd.2 q).getD d) S
  | none => .bad
def dgetX (te td : FS → Sto → Out D) (f : FS) (x : D) (S : Sto) : Out D := match dictOf S x with
  | some _ => (te f S).bind fun e S => (td f S).bind fun d S => match dictOf S x with
    | some kd => dgetD kd e d S
    | none => .bad
  | none => .bad
def starD (t : FS → Sto → Out (List D)) (f : FS) (d : D) (S : Sto) : Out (List D) := match seqOf S d with
  | some xs => (t f S).bind fun ds S => .ok (xs ++ ds) S
  | none => .bad
def mthX (m : Mt) (t : FS → Sto → Out (List D)) (f : FS) (x : D) (S : Sto) : Out D := if recv m S x = true then (t f S).bind fun ds S => mthD m x ds S else .bad
def bndD (d : D) (S : Sto) : Out (Option Int) := match d with
  | .int i => .ok (some i) S
  | _ => .bad
def isiD (ts : List Ty) (x : D) (S : Sto) : Out D := match isTys S x ts with
  | some b => .ok (.bl b) S
  | none => .bad
def valD (d : D) (S : Sto) : Out Src := match srcOf S d with
  | some s => .ok s S
  | none => .bad
def rng1D (x : D) (S : Sto) : Out Src := match x with
  | .int i => match rangeD 0 i with
    | some s => .ok s S
    | none => .bad
  | _ => .bad
def rng2D (x y : D) (S : Sto) : Out Src := match x, y with
  | .int i, .int j => match rangeD i j with
    | some s => .ok s S
    | none => .bad
  | _, _ => .bad
def stepD (tg : Tg) (tc : FS → Sto → Out (Option D)) (te : FS → Sto → Out D) (f : FS) (d : D) (S : Sto) : Out (Option D) := match bindTg S tg d f with
  | none => .bad
  | some f' => (tc f' S).bind fun b S => match b with
    | none => (te f' S).bind fun r S => .ok (some r) S
    | some (.bl true) => (te f' S).bind fun r S => .ok (some r) S
    | some (.bl false) => .ok none S
    | _ => .bad
/-- a field of a kept error -/
def xfldD (n : Nat) (x : D) (S : Sto) : Out D := match x with
  | .ref k => match S[k]? with
    | some (.exc c fs) => if c < 15 ∧ ∀ p ∈ fs, p.1 < 2 then match fs.lookup n with
      | some d => .ok d S
      | none => .bad
      else .bad
    | _ => .bad
  | _ => .bad
/-- two lists side by side -/
def zipD (x y : D) (S : Sto) : Out Src := match items S x, items S y, srcOf S x, srcOf S y with
  | some _, some _, some s, some t => .ok ⟨s.chk ++ t.chk, (s.xs.zip t.xs).map fun p => .tup [p.1, p.2]⟩ S
  | _, _, _, _ => .bad
noncomputable section
open Classical
/-- a comprehension's turns; step: none where the test says no -/
def compL (c : List (Nat × Ob)) (step : D → Sto → Out (Option D)) : List D → Sto → Out (List D)
  | [], S => if Chk c S then .ok [] S else .bad
  | d :: ds, S => if Chk c S then
      match step d S with
      | .ok o S1 => match compL c step ds S1 with
        | .ok r S2 => .ok (o.toList ++ r) S2
        | _ => .bad
      | _ => .bad
    else .bad

def compD (tg : Tg) (tc : FS → Sto → Out (Option D)) (te : FS → Sto → Out D) (own : List Nat) (f : FS) (src : Src) (S : Sto) : Out D := match compL src.chk (stepD tg tc te (wipe f own)) src.xs S with
  | .ok ds S => .ok (.lst ds) S
  | _ => .bad
mutual
def evE (c : Nat → List D → Sto → Out D) : E → FS → Sto → Out D
  | .var i, f, S => match f[i]? with
    | some (some d) => .ok d S
    | _ => .bad
  | .cst d, _, S => .ok d S
  | .glo x, _, S => match gloD x with
    | some d => .ok d S
    | none => .bad
  | .tup es, f, S => (evEs c es f S).bind fun ds S => if ds.length ≤ sz then .ok (.tup ds) S else .bad
  | .lst es, f, S => (evEs c es f S).bind fun ds S => if ds.length ≤ sz then .ok (.lst ds) S else .bad
  | .newL es, f, S => ((evEs c es f S).bind fun ds S => if ds.length ≤ sz then .ok (.lst ds) S else .bad).bind fun d S => newD d S
  | .newC es, f, S => ((evEs c es f S).bind fun ds S => bltD .list ds S).bind fun d S => newD d S
  | .bin op a b, f, S => (evE c a f S).bind fun x S => (evE c b f S).bind fun y S => binD op x y S
  | .cmp op a b, f, S => (evE c a f S).bind fun x S => (evE c b f S).bind fun y S => cmpD op x y S
  | .isN a, f, S => (evE c a f S).bind fun x S => .ok (.bl (isND x)) S
  | .notN a, f, S => (evE c a f S).bind fun x S => .ok (.bl (!isND x)) S
  | .isB b a, f, S => (evE c a f S).bind fun x S => isBD b x S
  | .notB b a, f, S => (evE c a f S).bind fun x S => notBD b x S
  | .and a b, f, S => (evE c a f S).bind fun x S => andD (evE c b) f x S
  | .or a b, f, S => (evE c a f S).bind fun x S => orD (evE c b) f x S
  | .not a, f, S => (evE c a f S).bind fun x S => notD x S
  | .neg a, f, S => (evE c a f S).bind fun x S => negD x S
  | .ite t a b, f, S => (evE c t f S).bind fun x S => iteD (evE c a) (evE c b) f x S
  | .sub a i, f, S => (evE c a f S).bind fun x S => (evE c i f S).bind fun y S => subD x y S
  | .slc a lo hi, f, S => (evE c a f S).bind fun x S => (evB c lo f S).bind fun l S => (evB c hi f S).bind fun h S => slcD x l h S
  | .call g es, f, S => (evEs c es f S).bind fun ds S => c g ds S
  | .blt b es, f, S => (evEs c es f S).bind fun ds S => bltD b ds S
  | .isi a ts, f, S => (evE c a f S).bind fun x S => isiD ts x S
  | .mth m o es, f, S => (evE c o f S).bind fun x S => mthX m (evEs c es) f x S
  | .fld n o, f, S => (evE c o f S).bind fun x S => xfldD n x S
  | .comp elt tg it cond own, f, S => (evIt c it f S).bind fun src S => compD tg (evO c cond) (evE c elt) own f src S
  | .never, _, _ => .bad
  | .dnew, _, S => dnewD S
  | .keys i j, f, S => keysV f i j S
  | .disp ks vs, f, S => (evEs c vs f S).bind fun ds S => dispD ks ds S
  | .callD g es, f, S => (evEs c es f S).bind fun ds S => c g (ds ++ [.tup []]) S
  | .newP a b, f, S => (evE c a f S).bind fun x S => (evE c b f S).bind fun y S => catD x y S
  | .dget o e d, f, S => (evE c o f S).bind fun x S => dgetX (evE c e) (evE c d) f x S
def evEs (c : Nat → List D → Sto → Out D) : Es → FS → Sto → Out (List D)
  | .nil, _, S => .ok [] S
  | .cons e r, f, S => (evE c e f S).bind fun d S => (evEs c r f S).bind fun ds S => .ok (d :: ds) S
  | .star e r, f, S => (evE c e f S).bind fun d S => starD (evEs c r) f d S
def evO (c : Nat → List D → Sto → Out D) : Oe → FS → Sto → Out (Option D)
  | .no, _, S => .ok none S
  | .yes e, f, S => (evE c e f S).bind fun d S => .ok (some d) S
def evB (c : Nat → List D → Sto → Out D) : Oe → FS → Sto → Out (Option Int)
  | .no, _, S => .ok none S
  | .yes e, f, S => (evE c e f S).bind fun d S => bndD d S
def evIt (c : Nat → List D → Sto → Out D) : It → FS → Sto → Out Src
  | .val e, f, S => (evE c e f S).bind fun d S => valD d S
  | .range1 a, f, S => (evE c a f S).bind fun x S => rng1D x S
  | .range2 a b, f, S => (evE c a f S).bind fun x S => (evE c b f S).bind fun y S => rng2D x y S
  | .zip a b, f, S => (evE c a f S).bind fun x S => (evE c b f S).bind fun y S => zipD x y S
end

/-- how a statement ends -/
inductive SO where
  | nx (f : FS) (S : Sto)
  | ret (d : D) (S : Sto)
  | brk (f : FS) (S : Sto)
  | ct (f : FS) (S : Sto)
  | exc (c : Nat) (fs : List (Nat × D)) (f : FS) (S : Sto)
  | bad

def Out.so {α : Type} (o : Out α) (f : FS) (k : α → Sto → SO) : SO := match o with
  | .ok a S => k a S
  | .exc c fs S => .exc c fs f S
  | .bad => .bad
@[simp] theorem Out.so_ok {α : Type} (a : α) (S : Sto) (f : FS) (k : α → Sto → SO) : (Out.ok a S).so f k = k a S := rfl
@[simp] theorem Out.so_exc {α : Type} (c : Nat) (fs : List (Nat × D)) (S : Sto) (f : FS) (k : α → Sto → SO) : (Out.exc c fs S : Out α).so f k = .exc c fs f S := rfl
@[simp] theorem Out.so_bad {α : Type} (f : FS) (k : α → Sto → SO) : (Out.bad : Out α).so f k = .bad := rfl

def forL (c : List (Nat × Ob)) (bd : D → FS → Sto → SO) : List D → FS → Sto → SO
  | [], f, S => if Chk c S then .nx f S else .bad
  | d :: ds, f, S => if Chk c S then match bd d f S with
      | .nx f S => forL c bd ds f S
      | .ct f S => forL c bd ds f S
      | .brk f S => .nx f S
      | .ret d S => .ret d S
      | .exc c fs f S => .exc c fs f S
      | .bad => .bad
    else .bad

def whileN (t : FS → Sto → Out D) (bd : FS → Sto → SO) : Nat → FS → Sto → Option SO
  | 0, _, _ => none
  | n + 1, f, S => match t f S with
    | .ok (.bl true) S => match bd f S with
      | .nx f S => whileN t bd n f S
      | .ct f S => whileN t bd n f S
      | .brk f S => some (.nx f S)
      | r => some r
    | .ok (.bl false) S => some (.nx f S)
    | .exc c fs S => some (.exc c fs f S)
    | _ => some .bad
def whl (t : FS → Sto → Out D) (bd : FS → Sto → SO) (f : FS) (S : Sto) : SO :=
  if h : ∃ n r, whileN t bd n f S = some r then Classical.choose (Classical.choose_spec h) else .bad

def putL (k : Nat) (xs : List D) (i d : D) (S : Sto) : Out Unit := match i with
  | .int i => match placeOf i xs.length with
    | some j => .ok () (S.set k (.lst (xs.set j d)))
    | none => .bad
  | _ => .bad
def putM (k : Nat) (ks : List DK) (ds : List D) (i d : D) (S : Sto) : Out Unit := match dkOf i with
  | some q => if ks.length < sz then .ok () (S.set k (.dct (kPutK ks q) (kPutD ks ds q d))) else .bad
  | none => .bad
def putD (o i d : D) (S : Sto) : Out Unit := match o with
  | .ref k => match S[k]? with
    | some (.lst xs) => putL k xs i d S
    | some (.dct ks ds) => putM k ks ds i d S
    | _ => .bad
  | _ => .bad

/-- o[i], ahead of o[i] op= e -/
def augGet (o i : D) (S : Sto) : Out D := match o, i with
  | .ref k, .int i => match items S (.ref k) with
    | some ds => match placeOf i ds.length with
      | some j => match ds[j]? with
        | some d => .ok d S
        | none => .bad
      | none => .bad
    | none => .bad
  | _, _ => .bad
/-- a op= b, of numbers -/
def augD (op : Bop) (a b : D) (S : Sto) : Out D := match op, a, b with
  | .add, .int i, .int j => .ok (.int (i + j)) S
  | .sub, .int i, .int j => .ok (.int (i - j)) S
  | _, _, _ => .bad
/-- an error's own fields: 13 Parted keeps a word, 14 NoText a line; the others are made of a constant text -/
def excFs (x : Nat) (ds : List D) : Option (List (Nat × D)) := match x, ds with
  | 13, [d] => some [(0, d)]
  | 14, [d] => some [(1, d)]
  | 13, _ => none
  | 14, _ => none
  | _, [] => some []
  | _, _ => none

def asgD (tg : Tg) (f : FS) (d : D) (S : Sto) : SO := match bindTg S tg d f with
  | some f => .nx f S
  | none => .bad
def parD (f : FS) (is : List Nat) (ds : List D) (S : Sto) : SO := match setAll f is ds with
  | some f => .nx f S
  | none => .bad
def thenS (u : FS → Sto → SO) (o : SO) : SO := match o with
  | .nx f S => u f S
  | o => o
def ifD (t u : FS → Sto → SO) (f : FS) (x : D) (S : Sto) : SO := match x with
  | .bl true => t f S
  | .bl false => u f S
  | _ => .bad
def forB (tg : Tg) (t : FS → Sto → SO) (d : D) (f : FS) (S : Sto) : SO := match bindTg S tg d f with
  | some f => t f S
  | none => .bad
def augN (op : Bop) (n : Nat) (t : FS → Sto → Out D) (f : FS) (S : Sto) : SO := match f[n]? with
  | some (some a) => (t f S).so f fun b S => (augD op a b S).so f fun d S => .nx (setAt f n d) S
  | _ => .bad
def tryD (x i v : Nat) (o : SO) : SO := match o with
  | .exc y fs f S => if under y x then .nx ((setAt f v (.ref S.length)).set i none) (S ++ [.exc y fs]) else .exc y fs f S
  | r => r
mutual
def evS (c : Nat → List D → Sto → Out D) : S → FS → Sto → SO
  | .asg tg e, f, S => (evE c e f S).so f fun d S => asgD tg f d S
  | .par is es, f, S => (evEs c es f S).so f fun ds S => parD f is ds S
  | .put o i e, f, S => (evE c e f S).so f fun d S => (evE c o f S).so f fun o S => (evE c i f S).so f fun i S => (putD o i d S).so f fun _ S => .nx f S
  | .aug i op e, f, S => augN op i (evE c e) f S
  | .augS o i op e, f, S => (evE c o f S).so f fun o S => (evE c i f S).so f fun i S => (augGet o i S).so f fun a S => (evE c e f S).so f fun b S => (augD op a b S).so f fun d S => (putD o i d S).so f fun _ S => .nx f S
  | .exp e, f, S => (evE c e f S).so f fun _ S => .nx f S
  | .ret e, f, S => (evE c e f S).so f fun d S => .ret d S
  | .ifs t a b, f, S => (evE c t f S).so f fun x S => ifD (evSs c a) (evSs c b) f x S
  | .whl t a, f, S => whl (evE c t) (evSs c a) f S
  | .fors tg it a, f, S => (evIt c it f S).so f fun src S => forL src.chk (forB tg (evSs c a)) src.xs f S
  | .brk, f, S => .brk f S
  | .cont, f, S => .ct f S
  | .raise x es, f, S => (evEs c es f S).so f fun ds S => match excFs x ds with
    | some fs => .exc x fs f S
    | none => .bad
  | .trys a x e v, f, S => tryD x e v (evSs c a f S)
  | .never, _, _ => .bad
def evSs (c : Nat → List D → Sto → Out D) : Ss → FS → Sto → SO
  | .nil, f, S => .nx f S
  | .cons s r, f, S => thenS (evSs c r) (evS c s f S)
end

/-- a def: how many parameters, how many slots, the body -/
structure Def where
  np : Nat
  ns : Nat
  body : Ss

/-- no list of the store within -/
def pureD : Nat → D → Prop
  | 0, _ => False
  | _ + 1, .ref _ => False
  | _ + 1, .scr _ => False
  | n + 1, .tup ds => ∀ d ∈ ds, pureD n d
  | n + 1, .lst ds => ∀ d ∈ ds, pureD n d
  | n + 1, .dct _ ds => ∀ d ∈ ds, pureD n d
  | _ + 1, _ => True
/-- what was made on the way is forgotten where nothing of it is handed back -/
def gc (S : Sto) (d : D) (S' : Sto) : Sto := if (∃ n, pureD n d) ∧ S <+: S' then S else S'

def start (d : Def) (ds : List D) : FS := ds.map some ++ List.replicate (d.ns - ds.length) none

def callN (Φ : Nat → Option Def) : Nat → Nat → List D → Sto → Out D
  | 0, _, _, _ => .bad
  | n + 1, g, ds, S => match Φ g with
    | none => .bad
    | some d => if ds.length = d.np ∧ d.np ≤ d.ns then match evSs (callN Φ n) d.body (start d ds) S with
        | .ret r S' => .ok r (gc S r S')
        | .nx _ S' => .ok .non (gc S .non S')
        | .exc c fs _ S' => .exc c fs S'
        | _ => .bad
      else .bad
end
end SL
set_option Elab.async false
set_option linter.all false
set_option maxRecDepth 100000
set_option maxHeartbeats 1000000
/-! A1: what data, a store, slots are in the abstract heap of the hand layer. -/
namespace SL
open PySem PySem.Spec L2

/-- a list that nobody may change: frozen, or one of the module's objects -/
def SqF (K : PySem.W.Frag) (H : Hp) (a : Addr) (xs : List V) : Prop :=
  (∃ o, H a = some (.frz o (.lst xs))) ∨
    ∃ (o : Obj) (its : Array Value) (n : Nat), K.lookup a = some o ∧ o.cls = .type "list" ∧ o.dict = none ∧ o.data = .seq its n ∧ its.size ≤ sizeLine ∧ Vals xs its.toList
theorem SqF.seq {K : PySem.W.Frag} {H : Hp} {a : Addr} {xs : List V} (h : SqF K H a xs) : SqL K H a xs := by
  rcases h with ⟨o, h⟩ | h
  · exact .inl (.inr ⟨o, h⟩)
  · exact .inr h

/-- where the objects of the store stand; where lists stand that are being made -/
structure Mu where
  l : List Addr
  r : List Addr
instance : Membership Addr Mu := ⟨fun μ a => a ∈ μ.l ∨ a ∈ μ.r⟩
theorem Mu.in_l {a : Addr} {μ : Mu} (h : a ∈ μ.l) : a ∈ μ := .inl h
theorem Mu.in_r {a : Addr} {μ : Mu} (h : a ∈ μ.r) : a ∈ μ := .inr h
def Mu.push (μ : Mu) (p : Addr) : Mu := ⟨μ.l ++ [p], μ.r⟩
def Mu.hold (μ : Mu) (p : Addr) : Mu := ⟨μ.l, p :: μ.r⟩
def keyOf : DK → Key
  | .int i => .inl i
  | .str x => .inr ⟨x.toArray⟩
theorem keyOf_inj {a b : DK} (h : keyOf a = keyOf b) : a = b := by
  cases a <;> cases b <;> simp [keyOf] at h <;> rw [h]
mutual
/-- the value v is the datum d -/
def Is (K : PySem.W.Frag) (μ : Mu) (H : Hp) : D → V → Prop
  | .non, v => v = .non
  | .bl b, v => v = .bl b
  | .int i, v => v = .int i
  | .str x, v => v = .str ⟨x.toArray⟩
  | .tup ds, v => ∃ a vs, v = .ref a ∧ SqT K H a vs ∧ IsL K μ H ds vs
  | .lst ds, v => ∃ a vs, v = .ref a ∧ a ∉ μ ∧ H a = some (.lst vs) ∧ IsL K μ H ds vs
  | .scr ns, v => ∃ a, v = .ref a ∧ SqF K H a (ns.map V.int)
  | .ref k, v => ∃ a, v = .ref a ∧ μ.l[k]? = some a
  | .dct ks ds, v => ∃ a kvs, v = .ref a ∧ a ∉ μ ∧ H a = some (.dK kvs) ∧ kvs.map (·.1) = ks.map keyOf ∧ IsL K μ H ds (kvs.map (·.2))
def IsL (K : PySem.W.Frag) (μ : Mu) (H : Hp) : List D → List V → Prop
  | [], vs => vs = []
  | d :: ds, vs => ∃ v r, vs = v :: r ∧ Is K μ H d v ∧ IsL K μ H ds r
end

/-- an exception object that is kept as a value -/
def ExT (cls : Value) (d : Option Addr) (a : Addr) : HO := .ext fun h => ∃ (oe : Obj) (vs : Array Value), h.get? a = some oe ∧ Zc cls d oe ∧ oe.data = .fields vs

/-- the fields of an object -/
def FsIs (K : PySem.W.Frag) (μ : Mu) (H : Hp) : List (Nat × D) → List (Str × V) → Prop
  | [], fv => fv = []
  | (n, d) :: fs, fv => ∃ v r, fv = (fname n, v) :: r ∧ Is K μ H d v ∧ FsIs K μ H fs r

/-- what is wanted of an error's own dict -/
def XIs (K : PySem.W.Frag) (μ : Mu) (H : Hp) (fs : List (Nat × D)) (d : Option Addr) : Prop :=
  match fs with
  | [] => d = none
  | fs => ∃ p fv, d = some p ∧ p ∉ μ ∧ H p = some (.xd fv) ∧ FsIs K μ H fs fv

def ObIs (K : PySem.W.Frag) (C : Nat → Addr) (μ : Mu) (H : Hp) (a : Addr) : Ob → Prop
  | .lst ds => ∃ vs, H a = some (.lst vs) ∧ IsL K μ H ds vs
  | .ins c fs => ∃ dx fv, H a = some (.ins (C c) dx fv) ∧ FsIs K μ H fs fv
  | .exc c fs => ∃ d, H a = some (ExT (.ref (C c)) d a) ∧ XIs K μ H fs d
  | .dct ks ds => ∃ kvs, H a = some (.dK kvs) ∧ kvs.map (·.1) = ks.map keyOf ∧ IsL K μ H ds (kvs.map (·.2))

structure KZ (K : PySem.W.Frag) (H : Hp) : Prop where
  hk : ∀ a o, K.lookup a = some o → H a = none
  hl : ∀ a xs, H a = some (.lst xs) → xs.length ≤ sizeLine
  ht : ∀ a xs, H a = some (.tup xs) → xs.length ≤ sizeLine
  fl : ∀ a o xs, H a = some (.frz o (.lst xs)) → xs.length ≤ sizeLine
  ft : ∀ a o xs, H a = some (.frz o (.tup xs)) → xs.length ≤ sizeLine
  hd : ∀ a kvs, H a = some (.dK kvs) → kvs.length ≤ sizeLine

/-- the store S stands in the heap H, its objects at μ -/
structure Rep0 (K : PySem.W.Frag) (C : Nat → Addr) (μ : Mu) (S : Sto) (H : Hp) : Prop where
  nd : μ.l.Nodup
  len : μ.l.length = S.length
  ob : ∀ (k : Nat) (a : Addr) (o : Ob), μ.l[k]? = some a → S[k]? = some o → ObIs K C μ H a o
  held : ∀ a ∈ μ.r, a ∉ μ.l ∧ ∃ xs, H a = some (.lst xs)

structure RepS (K : PySem.W.Frag) (C : Nat → Addr) (μ : Mu) (S : Sto) (H : Hp) : Prop extends Rep0 K C μ S H where
  kz : KZ K H
instance {K : PySem.W.Frag} {C : Nat → Addr} {μ : Mu} {S : Sto} {H : Hp} : Coe (RepS K C μ S H) (Rep0 K C μ S H) := ⟨RepS.toRep0⟩

structure Ext (μ : Mu) (H : Hp) (μ' : Mu) (H' : Hp) : Prop where
  pre : μ.l <+: μ'.l
  held : μ'.r = μ.r
  keep : ∀ b o, H b = some o → b ∉ μ.l → H' b = some o
  new : ∀ b ∈ μ'.l, b ∉ μ.l → H b = none

section
variable {K : PySem.W.Frag} {C : Nat → Addr} {μ μ' μ'' : Mu} {H H' H'' : Hp} {S S' : Sto}
theorem Ext.refl : Ext μ H μ H := ⟨List.prefix_refl _, rfl, fun _ _ h _ => h, fun _ h n => absurd h n⟩
theorem Ext.trans (a : Ext μ H μ' H') (b : Ext μ' H' μ'' H'') : Ext μ H μ'' H'' where
  pre := a.pre.trans b.pre
  held := b.held.trans a.held
  keep := fun x o h n => by
    refine b.keep x o (a.keep x o h n) fun m => ?_
    have z := a.new x m n
    rw [h] at z; cases z
  new := fun x m n => by
    by_cases hx : x ∈ μ'.l
    · exact a.new x hx n
    · cases q : H x with
      | none => rfl
      | some o =>
        have z := b.new x m hx
        rw [a.keep x o q n] at z; cases z
theorem Ext.kept (x : Ext μ H μ' H') {a : Addr} {o : HO} (h : H a = some o) (n : a ∉ μ) : H' a = some o := x.keep a o h fun m => n (.inl m)
theorem Ext.out (x : Ext μ H μ' H') {a : Addr} {o : HO} (h : H a = some o) (n : a ∉ μ) : a ∉ μ' := fun m => by
  rcases m with m | m
  · have z := x.new a m fun m => n (.inl m)
    rw [h] at z; cases z
  · rw [x.held] at m
    exact n (.inr m)

/-- something stands at each place of μ -/
theorem Rep0.obj (R : Rep0 K C μ S H) {a : Addr} (h : a ∈ μ.l) : ∃ (k : Nat) (o : Ob), μ.l[k]? = some a ∧ S[k]? = some o ∧ ObIs K C μ H a o := by
  obtain ⟨k, hk, e⟩ := List.getElem_of_mem h
  have hs : k < S.length := by rw [← R.len]; exact hk
  have e1 : μ.l[k]? = some a := by rw [List.getElem?_eq_getElem hk, e]
  have e2 : S[k]? = some S[k] := List.getElem?_eq_getElem hs
  exact ⟨k, _, e1, e2, R.ob k a _ e1 e2⟩
theorem ObIs.kinds {a : Addr} {o : Ob} (h : ObIs K C μ H a o) : ∃ u, H a = some u ∧ (∀ xs, u ≠ .tup xs) ∧ (∀ ob x, u ≠ .frz ob x) ∧ (∀ xs, u ≠ .xd xs) := by
  cases o with
  | lst ds =>
    obtain ⟨vs, e, _⟩ := h
    exact ⟨_, e, (by intro _ z; cases z), (by intro _ _ z; cases z), (by intro _ z; cases z)⟩
  | ins c fs =>
    obtain ⟨dx, fv, e, _⟩ := h
    exact ⟨_, e, (by intro _ z; cases z), (by intro _ _ z; cases z), (by intro _ z; cases z)⟩
  | exc c fs =>
    obtain ⟨d, e, _⟩ := h
    exact ⟨_, e, (by intro _ z; cases z), (by intro _ _ z; cases z), (by intro _ z; cases z)⟩
  | dct ks ds =>
    obtain ⟨kvs, e, _⟩ := h
    exact ⟨_, e, (by intro _ z; cases z), (by intro _ _ z; cases z), (by intro _ z; cases z)⟩
theorem Rep0.there (R : Rep0 K C μ S H) {a : Addr} (h : a ∈ μ) : ∃ u, H a = some u ∧ (∀ xs, u ≠ .tup xs) ∧ (∀ ob x, u ≠ .frz ob x) ∧ (∀ xs, u ≠ .xd xs) := by
  rcases h with h | h
  · obtain ⟨_, _, _, _, q⟩ := R.obj h
    exact q.kinds
  · obtain ⟨_, xs, e⟩ := R.held a h
    exact ⟨_, e, (by intro _ z; cases z), (by intro _ _ z; cases z), (by intro _ z; cases z)⟩
theorem Rep0.notin (R : Rep0 K C μ S H) {a : Addr} (h : H a = none) : a ∉ μ := fun m => by
  obtain ⟨u, e, _⟩ := R.there m
  rw [h] at e; cases e
theorem Rep0.notT (R : Rep0 K C μ S H) {a : Addr} {xs : List V} (h : H a = some (.tup xs)) : a ∉ μ := fun m => by
  obtain ⟨u, e, z, _⟩ := R.there m
  rw [h] at e; cases e
  exact z _ rfl
theorem Rep0.notF (R : Rep0 K C μ S H) {a : Addr} {o : Obj} {u : HO} (h : H a = some (.frz o u)) : a ∉ μ := fun m => by
  obtain ⟨w, e, _, z, _⟩ := R.there m
  rw [h] at e; cases e
  exact z _ _ rfl

/-- what was data stays so -/
structure Grow (μ : Mu) (H : Hp) (μ' : Mu) (H' : Hp) : Prop where
  pre : μ.l <+: μ'.l
  kept : ∀ a o, H a = some o → a ∉ μ → H' a = some o
  out : ∀ a o, H a = some o → a ∉ μ → a ∉ μ'
theorem Ext.grow (x : Ext μ H μ' H') : Grow μ H μ' H' := ⟨x.pre, fun _ _ h n => x.kept h n, fun _ _ h n => x.out h n⟩
theorem Grow.trans (a : Grow μ H μ' H') (b : Grow μ' H' μ'' H'') : Grow μ H μ'' H'' :=
  ⟨a.pre.trans b.pre, fun x o h n => b.kept x o (a.kept x o h n) (a.out x o h n), fun x o h n => b.out x o (a.kept x o h n) (a.out x o h n)⟩
theorem SqT.monoG {a : Addr} {xs : List V} (R : Rep0 K C μ S H) (x : Grow μ H μ' H') (h : SqT K H a xs) : SqT K H' a xs := by
  rcases h with (h | ⟨o, h⟩) | h
  · exact .inl (.inl (x.kept a _ h (R.notT h)))
  · exact .inl (.inr ⟨o, x.kept a _ h (R.notF h)⟩)
  · exact .inr h
theorem SqF.monoG {a : Addr} {xs : List V} (R : Rep0 K C μ S H) (x : Grow μ H μ' H') (h : SqF K H a xs) : SqF K H' a xs := by
  rcases h with ⟨o, h⟩ | h
  · exact .inl ⟨o, x.kept a _ h (R.notF h)⟩
  · exact .inr h
mutual
theorem Is.monoG (R : Rep0 K C μ S H) (x : Grow μ H μ' H') : ∀ (d : D) (v : V), Is K μ H d v → Is K μ' H' d v
  | .non, _, h => h
  | .bl _, _, h => h
  | .int _, _, h => h
  | .str _, _, h => h
  | .tup ds, v, h => by
    obtain ⟨a, vs, e, q, l⟩ := h
    exact ⟨a, vs, e, SqT.monoG R x q, IsL.monoG R x ds vs l⟩
  | .lst ds, v, h => by
    obtain ⟨a, vs, e, n, q, l⟩ := h
    exact ⟨a, vs, e, x.out a _ q n, x.kept a _ q n, IsL.monoG R x ds vs l⟩
  | .scr ns, v, h => by
    obtain ⟨a, e, q⟩ := h
    exact ⟨a, e, SqF.monoG R x q⟩
  | .ref k, v, h => by
    obtain ⟨a, e, q⟩ := h
    refine ⟨a, e, ?_⟩
    obtain ⟨t, ht⟩ := x.pre
    rw [← ht, List.getElem?_append_left (by exact (List.getElem?_eq_some_iff.mp q).1)]
    exact q
  | .dct ks ds, v, h => by
    obtain ⟨a, vs, e, n, q, kk, l⟩ := h
    exact ⟨a, vs, e, x.out a _ q n, x.kept a _ q n, kk, IsL.monoG R x ds _ l⟩
theorem IsL.monoG (R : Rep0 K C μ S H) (x : Grow μ H μ' H') : ∀ (ds : List D) (vs : List V), IsL K μ H ds vs → IsL K μ' H' ds vs
  | [], _, h => h
  | d :: ds, vs, h => by
    obtain ⟨v, r, e, i, l⟩ := h
    exact ⟨v, r, e, Is.monoG R x d v i, IsL.monoG R x ds r l⟩
end
theorem FsIs.monoG (R : Rep0 K C μ S H) (x : Grow μ H μ' H') : ∀ (fs : List (Nat × D)) (fv : List (Str × V)), FsIs K μ H fs fv → FsIs K μ' H' fs fv
  | [], _, h => h
  | (n, d) :: fs, fv, h => by
    obtain ⟨v, r, e, i, l⟩ := h
    exact ⟨v, r, e, Is.monoG R x d v i, FsIs.monoG R x fs r l⟩
theorem SqT.mono {a : Addr} {xs : List V} (R : Rep0 K C μ S H) (x : Ext μ H μ' H') (h : SqT K H a xs) : SqT K H' a xs := SqT.monoG R x.grow h
theorem SqF.mono {a : Addr} {xs : List V} (R : Rep0 K C μ S H) (x : Ext μ H μ' H') (h : SqF K H a xs) : SqF K H' a xs := SqF.monoG R x.grow h
theorem Is.mono (R : Rep0 K C μ S H) (x : Ext μ H μ' H') (d : D) (v : V) (h : Is K μ H d v) : Is K μ' H' d v := Is.monoG R x.grow d v h
theorem IsL.mono (R : Rep0 K C μ S H) (x : Ext μ H μ' H') (ds : List D) (vs : List V) (h : IsL K μ H ds vs) : IsL K μ' H' ds vs := IsL.monoG R x.grow ds vs h
theorem FsIs.mono (R : Rep0 K C μ S H) (x : Ext μ H μ' H') (fs : List (Nat × D)) (fv : List (Str × V)) (h : FsIs K μ H fs fv) : FsIs K μ' H' fs fv := FsIs.monoG R x.grow fs fv h
theorem IsL.length : ∀ {ds : List D} {vs : List V}, IsL K μ H ds vs → vs.length = ds.length
  | [], _, h => by rw [show _ = [] from h]; rfl
  | d :: ds, vs, h => by
    obtain ⟨v, r, e, i, l⟩ := h
    rw [e, List.length_cons, List.length_cons, IsL.length l]
theorem IsL.get : ∀ {ds : List D} {vs : List V} {k : Nat} {d : D}, IsL K μ H ds vs → ds[k]? = some d → ∃ v, vs[k]? = some v ∧ Is K μ H d v
  | [], _, _, _, _, e => by simp at e
  | d :: ds, vs, 0, d', h, e => by
    obtain ⟨v, r, rfl, i, l⟩ := h
    simp at e; subst e
    exact ⟨v, rfl, i⟩
  | d :: ds, vs, k + 1, d', h, e => by
    obtain ⟨v, r, rfl, i, l⟩ := h
    obtain ⟨u, e1, i1⟩ := IsL.get (k := k) l (by simpa using e)
    exact ⟨u, by simpa using e1, i1⟩
theorem IsL.append : ∀ {ds es : List D} {vs us : List V}, IsL K μ H ds vs → IsL K μ H es us → IsL K μ H (ds ++ es) (vs ++ us)
  | [], _, _, _, h, q => by rw [show _ = [] from h]; exact q
  | d :: ds, es, vs, us, h, q => by
    obtain ⟨v, r, rfl, i, l⟩ := h
    exact ⟨v, r ++ us, rfl, i, IsL.append l q⟩
theorem IsL.take : ∀ {ds : List D} {vs : List V} (n : Nat), IsL K μ H ds vs → IsL K μ H (ds.take n) (vs.take n)
  | _, _, 0, h => by simp; rfl
  | [], _, n + 1, h => by rw [show _ = [] from h]; rfl
  | d :: ds, vs, n + 1, h => by
    obtain ⟨v, r, rfl, i, l⟩ := h
    exact ⟨v, r.take n, rfl, i, IsL.take n l⟩
theorem IsL.drop : ∀ {ds : List D} {vs : List V} (n : Nat), IsL K μ H ds vs → IsL K μ H (ds.drop n) (vs.drop n)
  | _, _, 0, h => by simpa using h
  | [], _, n + 1, h => by rw [show _ = [] from h]; rfl
  | d :: ds, vs, n + 1, h => by
    obtain ⟨v, r, rfl, i, l⟩ := h
    exact IsL.drop n l
theorem IsL.set {d : D} {v : V} (q : Is K μ H d v) : ∀ {ds : List D} {vs : List V} (n : Nat), IsL K μ H ds vs → IsL K μ H (ds.set n d) (vs.set n v)
  | [], _, n, h => by rw [show _ = [] from h]; rfl
  | e :: ds, vs, 0, h => by
    obtain ⟨u, r, rfl, i, l⟩ := h
    exact ⟨v, r, rfl, q, l⟩
  | e :: ds, vs, n + 1, h => by
    obtain ⟨u, r, rfl, i, l⟩ := h
    exact ⟨u, r.set n v, rfl, i, IsL.set q n l⟩
theorem IsL.rep : ∀ {ds : List D} {vs : List V} (n : Nat), IsL K μ H ds vs → IsL K μ H (List.replicate n ds).flatten (List.replicate n vs).flatten
  | _, _, 0, h => by rfl
  | ds, vs, n + 1, h => by
    rw [List.replicate_succ, List.replicate_succ, List.flatten_cons, List.flatten_cons]
    exact h.append (IsL.rep n h)
theorem IsL.ints : ∀ {ns : List Int}, IsL K μ H (ns.map D.int) (ns.map V.int)
  | [] => rfl
  | n :: ns => ⟨_, _, rfl, rfl, IsL.ints⟩

/-! ### the store grows, changes -/
theorem ext_alloc {p : Addr} {o : HO} (R : Rep0 K C μ S H) (n : H p = none) : Ext μ H μ (upd H p o) :=
  ⟨List.prefix_refl _, rfl, fun b u h _ => by rw [upd_ne (ne_of_none h n)]; exact h, fun _ h m => absurd h m⟩
theorem ObIs.monoG {a : Addr} {o : Ob} (R : Rep0 K C μ S H) (x : Grow μ H μ' H') (h : ObIs K C μ H a o) (e : H' a = H a) : ObIs K C μ' H' a o := by
  cases o with
  | lst ds =>
    obtain ⟨vs, q, l⟩ := h
    exact ⟨vs, by rw [e]; exact q, l.monoG R x⟩
  | ins c fs =>
    obtain ⟨dx, fv, q, l⟩ := h
    exact ⟨dx, fv, by rw [e]; exact q, l.monoG R x⟩
  | exc c fs =>
    obtain ⟨d, q, l⟩ := h
    refine ⟨d, by rw [e]; exact q, ?_⟩
    cases fs with
    | nil => exact l
    | cons f fs =>
      obtain ⟨p, fv, e1, n, hp, l⟩ := l
      exact ⟨p, fv, e1, x.out p _ hp n, x.kept p _ hp n, l.monoG R x⟩
  | dct ks ds =>
    obtain ⟨kvs, q, kk, l⟩ := h
    exact ⟨kvs, by rw [e]; exact q, kk, l.monoG R x⟩
theorem ObIs.mono {a : Addr} {o : Ob} (R : Rep0 K C μ S H) (x : Ext μ H μ' H') (h : ObIs K C μ H a o) (e : H' a = H a) : ObIs K C μ' H' a o := h.monoG R x.grow e
/-- something new that is no object of the store -/
theorem Rep0.alloc {p : Addr} {o : HO} (R : Rep0 K C μ S H) (n : H p = none) (z : KZ K (upd H p o)) : RepS K C μ S (upd H p o) :=
  ⟨⟨R.nd, R.len, fun k a ob h1 h2 => (R.ob k a ob h1 h2).mono R (ext_alloc R n) (by
    obtain ⟨u, e, _⟩ := (R.ob k a ob h1 h2).kinds
    rw [upd_ne (ne_of_none e n)]), fun a ha => by
      obtain ⟨n1, xs, e⟩ := R.held a ha
      exact ⟨n1, xs, by rw [upd_ne (ne_of_none e n)]; exact e⟩⟩, z⟩
theorem ext_own {p : Addr} {o : HO} (n : H p = none) : Ext μ H (μ.push p) (upd H p o) :=
  ⟨List.prefix_append _ _, rfl, fun b u h _ => by rw [upd_ne (ne_of_none h n)]; exact h, fun b m k => by
    rcases List.mem_append.mp m with m | m
    · exact absurd m k
    · rw [List.mem_singleton.mp m]; exact n⟩
/-- a new object of the store -/
theorem Rep0.push {p : Addr} {o : HO} {b : Ob} (R : Rep0 K C μ S H) (n : H p = none) (z : KZ K (upd H p o)) (ob : ObIs K C (μ.push p) (upd H p o) p b) : RepS K C (μ.push p) (S ++ [b]) (upd H p o) := by
  refine ⟨⟨?_, by simp [Mu.push, R.len], fun k a c h1 h2 => ?_, fun a ha => ?_⟩, z⟩
  · show (μ.l ++ [p]).Nodup
    rw [List.nodup_append]
    refine ⟨R.nd, by simp, fun x hx y hy => ?_⟩
    rw [List.mem_singleton.mp hy]
    rintro rfl
    exact R.notin n (.inl hx)
  · have h1 : (μ.l ++ [p])[k]? = some a := h1
    by_cases hk : k < μ.l.length
    · rw [List.getElem?_append_left hk] at h1
      rw [List.getElem?_append_left (by rw [← R.len]; exact hk)] at h2
      refine (R.ob k a c h1 h2).mono R (ext_own n) ?_
      obtain ⟨u, e, _⟩ := (R.ob k a c h1 h2).kinds
      rw [upd_ne (ne_of_none e n)]
    · have hk' : k = μ.l.length := by
        have := (List.getElem?_eq_some_iff.mp h1).1
        simp at this; omega
      subst hk'
      rw [List.getElem?_append_right (Nat.le_refl _)] at h1
      rw [R.len, List.getElem?_append_right (Nat.le_refl _)] at h2
      simp at h1 h2
      subst h1 h2
      exact ob
  · obtain ⟨n1, xs, e⟩ := R.held a ha
    refine ⟨fun m => ?_, xs, by rw [upd_ne (ne_of_none e n)]; exact e⟩
    rcases List.mem_append.mp m with m | m
    · exact n1 m
    · rw [List.mem_singleton.mp m, n] at e; cases e
theorem ext_write {a : Addr} {o : HO} (m : a ∈ μ.l) : Ext μ H μ (upd H a o) :=
  ⟨List.prefix_refl _, rfl, fun b u h n => by rw [upd_ne (show b ≠ a from fun e => n (by rw [e]; exact m))]; exact h, fun _ h k => absurd h k⟩
/-- an object of the store is changed -/
theorem Rep0.write {k : Nat} {a : Addr} {o : HO} {b : Ob} (R : Rep0 K C μ S H) (h : μ.l[k]? = some a) (z : KZ K (upd H a o)) (ob : ObIs K C μ (upd H a o) a b) : RepS K C μ (S.set k b) (upd H a o) := by
  have hm : a ∈ μ.l := List.mem_of_getElem? h
  refine ⟨⟨R.nd, by rw [List.length_set]; exact R.len, fun j c d h1 h2 => ?_, fun c hc => ?_⟩, z⟩
  · by_cases e : j = k
    · subst e
      rw [h] at h1; cases h1
      rw [List.getElem?_set_self (by rw [← R.len]; exact (List.getElem?_eq_some_iff.mp h).1)] at h2
      cases h2
      exact ob
    · rw [List.getElem?_set_ne (Ne.symm e)] at h2
      refine (R.ob j c d h1 h2).mono R (ext_write hm) ?_
      rw [upd_ne]
      rintro rfl
      obtain ⟨q1, e1⟩ := List.getElem?_eq_some_iff.mp h
      obtain ⟨q2, e2⟩ := List.getElem?_eq_some_iff.mp h1
      exact e ((List.getElem_inj R.nd).mp (e2.trans e1.symm))
  · obtain ⟨n1, xs, e⟩ := R.held c hc
    exact ⟨n1, xs, by rw [upd_ne (show c ≠ a from fun z => n1 (by rw [z]; exact hm))]; exact e⟩
/-- the objects of the store by their numbers -/
theorem Rep0.at (R : Rep0 K C μ S H) {k : Nat} {o : Ob} {v : V} (h : Is K μ H (.ref k) v) (e : S[k]? = some o) : ∃ a, v = .ref a ∧ μ.l[k]? = some a ∧ ObIs K C μ H a o := by
  obtain ⟨a, rfl, q⟩ := h
  exact ⟨a, rfl, q, R.ob k a o q e⟩
/-- a list, by value or in the store -/
theorem Rep0.items (R : Rep0 K C μ S H) {d : D} {v : V} {ds : List D} (h : Is K μ H d v) (e : items S d = some ds) : ∃ a vs, v = .ref a ∧ H a = some (.lst vs) ∧ IsL K μ H ds vs := by
  cases d with
  | lst xs =>
    obtain ⟨a, vs, rfl, _, q, l⟩ := h
    cases e
    exact ⟨a, vs, rfl, q, l⟩
  | ref k =>
    cases q : S[k]? with
    | none => simp only [SL.items, q] at e; cases e
    | some o =>
      simp only [SL.items, q] at e
      cases o with
      | lst xs =>
        cases e
        obtain ⟨a, rfl, m, ob⟩ := R.at h q
        obtain ⟨vs, hv, l⟩ := ob
        exact ⟨a, vs, rfl, hv, l⟩
      | ins _ _ => cases e
      | exc _ _ => cases e
      | dct _ _ => cases e
  | _ => cases e
/-- .. or a tuple -/
theorem Rep0.seq (R : Rep0 K C μ S H) {d : D} {v : V} {ds : List D} (h : Is K μ H d v) (e : seqOf S d = some ds) : ∃ a vs, v = .ref a ∧ (SqL K H a vs ∨ SqT K H a vs) ∧ IsL K μ H ds vs := by
  cases d with
  | tup xs =>
    obtain ⟨a, vs, rfl, q, l⟩ := h
    cases e
    exact ⟨a, vs, rfl, .inr q, l⟩
  | scr ns =>
    obtain ⟨a, rfl, q⟩ := h
    cases e
    exact ⟨a, _, rfl, .inl q.seq, IsL.ints⟩
  | lst xs =>
    obtain ⟨a, vs, e1, e2, l⟩ := R.items h e
    exact ⟨a, vs, e1, .inl (.inl (.inl e2)), l⟩
  | ref k =>
    obtain ⟨a, vs, e1, e2, l⟩ := R.items h e
    exact ⟨a, vs, e1, .inl (.inl (.inl e2)), l⟩
  | _ => cases e
end

/-! ### what the layer's invariant says of every heap -/
section
variable {X : Cx} {pins : List (Addr × Obj)} {σ : St} {H : Hp} {s : Shared}
theorem kz_of (I : Inv X pins σ H s) : KZ X.K H where
  hk := fun a o e => (I.bs a o (I.ok.mod.kin a o e)).2
  hl := fun a xs e => (I.hok a _ e).1
  ht := fun a xs e => (I.hok a _ e).1
  fl := fun a o xs e => (I.hok a _ e).2.1
  ft := fun a o xs e => (I.hok a _ e).2.1
  hd := fun a kvs e => (I.hok a _ e).1
end
/-- .. so it may be used of every result -/
def kno (K : PySem.W.Frag) (Q : VK) : VK := fun v H => KZ K H → Q v H
section
variable {X : Cx}
theorem ep_kno {pins : List (Addr × Obj)} {σ : St} {Q : VK} {u : Value} {s : Shared} (h : EP X pins σ (kno X.K Q) u s) : EP X pins σ Q u s := by
  obtain ⟨v, H, I, r, q⟩ := h
  exact ⟨v, H, I, r, q (kz_of I)⟩
theorem PE.kno {e : Expr} {t : TE} (h : PE X e t) : PE X e (fun σ H Q => t σ H (SL.kno X.K Q)) :=
  ⟨fun pins s σ H Q I q => thn (h.run pins s σ H _ I q) fun u s' z => ep_kno z⟩
theorem PE.imp {e : Expr} {t t' : TE} (h : PE X e t) (w : ∀ σ H Q, t' σ H Q → t σ H Q) : PE X e t' :=
  ⟨fun pins s σ H Q I q => h.run pins s σ H Q I (w σ H Q q)⟩
theorem PT.imp {e : Expr} {t t' : TT} (h : PT X e t) (w : ∀ σ H Q, t' σ H Q → t σ H Q) : PT X e t' :=
  ⟨fun pins s σ H Q I q => h.run pins s σ H Q I (w σ H Q q)⟩
theorem PW.imp {e : Expr} {t t' : TT} (h : PW X e t) (w : ∀ σ H Q, t' σ H Q → t σ H Q) : PW X e t' :=
  ⟨fun wh pins s σ H Q I q => h.run wh pins s σ H Q I (w σ H Q q)⟩
theorem PA.imp {es : List Expr} {t t' : TA} (h : PA X es t) (w : ∀ σ H Q, t' σ H Q → t σ H Q) : PA X es t' :=
  ⟨fun p pins s σ H Q I q => h.run p pins s σ H Q I (w σ H Q q)⟩
theorem PS.imp {e : Stmt} {t t' : TS} (h : PS X e t) (w : ∀ D σ H, t' D σ H → t D σ H) : PS X e t' :=
  ⟨fun pins s σ H D I q => h.run pins s σ H D I (w D σ H q)⟩
theorem PSs.imp {e : List Stmt} {t t' : TS} (h : PSs X e t) (w : ∀ D σ H, t' D σ H → t D σ H) : PSs X e t' :=
  ⟨fun pins s σ H D I q => h.run pins s σ H D I (w D σ H q)⟩
theorem kno_op {f : Value → Value → Sem Value} {r : R2} (h : OpR X f r) : OpR X f (fun x y H Q => r x y H (SL.kno X.K Q)) :=
  fun pins s σ H x y v u Q I rx ry q => thn (h pins s σ H x y v u _ I rx ry q) fun u s' z => ep_kno z
theorem kno_call {f : Value} {r : List V → Hp → VK → Prop} (h : CallR X f r) : CallR X f (fun xs H Q => r xs H (SL.kno X.K Q)) :=
  fun pins s σ H xs us Q I rs q => thn (h pins s σ H xs us _ I rs q) fun u s' z => ep_kno z
theorem kno_mt {id : String} {r : V → List V → Hp → VK → Prop} (h : MtR X id r) : MtR X id (fun x xs H Q => r x xs H (SL.kno X.K Q)) :=
  fun pins s σ H x xs v us Q I rx rs q => thn (h pins s σ H x xs v us _ I rx rs q) fun u s' z => ep_kno z
theorem kno_sl {r : V → Option Int → Option Int → Hp → VK → Prop} (h : L2.SlR X r) : L2.SlR X (fun x lo hi H Q => r x lo hi H (SL.kno X.K Q)) :=
  fun pins s σ H x v vl vu lo hi sl Q I rx hs pl pu q => by
    obtain ⟨T, id, h1, h2, h3⟩ := h pins s σ H x v vl vu lo hi sl _ I rx hs pl pu q
    exact ⟨T, id, h1, h2, thn h3 fun u s' z => ep_kno z⟩
end

/-! ### slots -/
structure Sl (K : PySem.W.Frag) (μ : Mu) (H : Hp) (f : FS) (σ : St) : Prop where
  len : f.length = σ.length
  at_ : ∀ (i : Nat) (d : D), f[i]? = some (some d) → ∃ v, σ[i]? = some (some v) ∧ Is K μ H d v
section
variable {K : PySem.W.Frag} {C : Nat → Addr} {μ μ' : Mu} {H H' : Hp} {S : Sto} {f : FS} {σ : St}
theorem Sl.monoG (R : Rep0 K C μ S H) (x : Grow μ H μ' H') (h : Sl K μ H f σ) : Sl K μ' H' f σ :=
  ⟨h.len, fun i d e => by
    obtain ⟨v, e1, q⟩ := h.at_ i d e
    exact ⟨v, e1, q.monoG R x⟩⟩
theorem Sl.mono (R : Rep0 K C μ S H) (x : Ext μ H μ' H') (h : Sl K μ H f σ) : Sl K μ' H' f σ :=
  ⟨h.len, fun i d e => by
    obtain ⟨v, e1, q⟩ := h.at_ i d e
    exact ⟨v, e1, q.mono R x⟩⟩
theorem Sl.set {i : Nat} {d : D} {v : V} (h : Sl K μ H f σ) (q : Is K μ H d v) : Sl K μ H (setAt f i d) (σ.set i (some v)) :=
  ⟨by unfold setAt; rw [List.length_set, List.length_set, h.len], fun j e z => by
    unfold setAt at z
    by_cases hj : j = i
    · subst hj
      by_cases hl : j < f.length
      · rw [List.getElem?_set_self hl] at z
        cases z
        exact ⟨v, by rw [List.getElem?_set_self (by rw [← h.len]; exact hl)], q⟩
      · rw [List.getElem?_eq_none (by simpa using hl)] at z; cases z
    · rw [List.getElem?_set_ne (Ne.symm hj)] at z ⊢
      exact h.at_ j e z⟩
theorem Sl.wipe (h : Sl K μ H f σ) : ∀ is : List Nat, Sl K μ H (SL.wipe f is) (L2.wipe σ is)
  | [] => h
  | i :: is => by
    have q := Sl.wipe h is
    refine ⟨by unfold SL.wipe L2.wipe; rw [List.length_set, List.length_set, q.len], fun j d e => ?_⟩
    unfold SL.wipe at e
    unfold L2.wipe
    by_cases hj : j = i
    · subst hj
      by_cases hl : j < (SL.wipe f is).length
      · rw [List.getElem?_set_self hl] at e; cases e
      · rw [List.getElem?_eq_none (by simpa using hl)] at e; cases e
    · rw [List.getElem?_set_ne (Ne.symm hj)] at e ⊢
      exact q.at_ j d e
theorem Sl.unset (h : Sl K μ H f σ) (i : Nat) : Sl K μ H (f.set i none) (σ.set i none) := Sl.wipe h [i]
end

/-! ### lifting -/
/-- the frame of a reading: the module's part, the classes, what is wanted of an error -/
structure Gx where
  K : PySem.W.Frag
  C : Nat → Addr
  W : WX

/-- how a pure end reads at the heap -/
def GoodE (G : Gx) (σ : St) (μ : Mu) (H : Hp) (Q : VK) : Out D → Prop
  | .ok d S' => ∀ v H' μ', Ext μ H μ' H' → RepS G.K G.C μ' S' H' → Is G.K μ' H' d v → Q v H'
  | .exc c fs S' => ∀ H' μ' dd, Ext μ H μ' H' → RepS G.K G.C μ' S' H' → XIs G.K μ' H' fs dd → G.W (.ref (G.C c)) dd σ H'
  | .bad => False
def GoodA (G : Gx) (σ : St) (μ : Mu) (H : Hp) (Q : List V → Hp → Prop) : Out (List D) → Prop
  | .ok d S' => ∀ v H' μ', Ext μ H μ' H' → RepS G.K G.C μ' S' H' → IsL G.K μ' H' d v → Q v H'
  | .exc c fs S' => ∀ H' μ' dd, Ext μ H μ' H' → RepS G.K G.C μ' S' H' → XIs G.K μ' H' fs dd → G.W (.ref (G.C c)) dd σ H'
  | .bad => False
def GoodT (G : Gx) (σ : St) (μ : Mu) (H : Hp) (Q : Bool → Hp → Prop) : Out D → Prop
  | .ok (.bl b) S' => ∀ H' μ', Ext μ H μ' H' → RepS G.K G.C μ' S' H' → Q b H'
  | .exc c fs S' => ∀ H' μ' dd, Ext μ H μ' H' → RepS G.K G.C μ' S' H' → XIs G.K μ' H' fs dd → G.W (.ref (G.C c)) dd σ H'
  | _ => False
/-- a new list -/
def GoodN (G : Gx) (σ : St) (μ : Mu) (H : Hp) (Q : VK) : Out D → Prop
  | .ok (.lst ds) S' => ∀ vs p H' μ', Ext μ H μ' H' → RepS G.K G.C μ' S' H' → IsL G.K μ' H' ds vs → H' p = none → KZ G.K (upd H' p (.lst vs)) → Q (.ref p) (upd H' p (.lst vs))
  | .exc c fs S' => ∀ H' μ' dd, Ext μ H μ' H' → RepS G.K G.C μ' S' H' → XIs G.K μ' H' fs dd → G.W (.ref (G.C c)) dd σ H'
  | _ => False
def lift (G : Gx) (t : FS → Sto → Out D) : TE := fun σ H Q => ∃ μ f S, RepS G.K G.C μ S H ∧ Sl G.K μ H f σ ∧ GoodE G σ μ H Q (t f S)
def liftA (G : Gx) (t : FS → Sto → Out (List D)) : TA := fun σ H Q => ∃ μ f S, RepS G.K G.C μ S H ∧ Sl G.K μ H f σ ∧ GoodA G σ μ H Q (t f S)
def liftT (G : Gx) (t : FS → Sto → Out D) : TT := fun σ H Q => ∃ μ f S, RepS G.K G.C μ S H ∧ Sl G.K μ H f σ ∧ GoodT G σ μ H Q (t f S)
def liftN (G : Gx) (t : FS → Sto → Out D) : TE := fun σ H Q => ∃ μ f S, RepS G.K G.C μ S H ∧ Sl G.K μ H f σ ∧ GoodN G σ μ H Q (t f S)

section
variable {G : Gx} {σ : St} {μ μ' : Mu} {H H' : Hp}
theorem GoodE.mono {Q : VK} {o : Out D} (x : Ext μ H μ' H') (h : GoodE G σ μ H Q o) : GoodE G σ μ' H' Q o := by
  cases o with
  | ok d S => exact fun v H2 μ2 x2 => h v H2 μ2 (x.trans x2)
  | exc c fs S => exact fun H2 μ2 dd x2 => h H2 μ2 dd (x.trans x2)
  | bad => exact h
theorem GoodA.mono {Q : List V → Hp → Prop} {o : Out (List D)} (x : Ext μ H μ' H') (h : GoodA G σ μ H Q o) : GoodA G σ μ' H' Q o := by
  cases o with
  | ok d S => exact fun v H2 μ2 x2 => h v H2 μ2 (x.trans x2)
  | exc c fs S => exact fun H2 μ2 dd x2 => h H2 μ2 dd (x.trans x2)
  | bad => exact h
theorem GoodT.mono {Q : Bool → Hp → Prop} {o : Out D} (x : Ext μ H μ' H') (h : GoodT G σ μ H Q o) : GoodT G σ μ' H' Q o := by
  cases o with
  | ok d S =>
    cases d with
    | bl b => exact fun H2 μ2 x2 => h H2 μ2 (x.trans x2)
    | _ => exact h
  | exc c fs S => exact fun H2 μ2 dd x2 => h H2 μ2 dd (x.trans x2)
  | bad => exact h
theorem GoodN.mono {Q : VK} {o : Out D} (x : Ext μ H μ' H') (h : GoodN G σ μ H Q o) : GoodN G σ μ' H' Q o := by
  cases o with
  | ok d S =>
    cases d with
    | lst b => exact fun vs p H2 μ2 x2 => h vs p H2 μ2 (x.trans x2)
    | _ => exact h
  | exc c fs S => exact fun H2 μ2 dd x2 => h H2 μ2 dd (x.trans x2)
  | bad => exact h
/-- one part, then the rest -/
theorem lift_bind {t : FS → Sto → Out D} {Q : VK} {S : Sto} {f : FS} (R : RepS G.K G.C μ S H) (L : Sl G.K μ H f σ) {β : Type} {k : D → Sto → Out β} {Good : Out β → Prop}
    (h : Good ((t f S).bind k)) (hx : ∀ c fs S', Good (.exc c fs S') → ∀ H' μ' dd, Ext μ H μ' H' → RepS G.K G.C μ' S' H' → XIs G.K μ' H' fs dd → G.W (.ref (G.C c)) dd σ H') (hb : ¬ Good .bad)
    (go : ∀ d S' v H' μ', t f S = .ok d S' → Ext μ H μ' H' → RepS G.K G.C μ' S' H' → Is G.K μ' H' d v → Good (k d S') → Q v H') : lift G t σ H Q := by
  refine ⟨μ, f, S, R, L, ?_⟩
  cases e : t f S with
  | ok d S' =>
    rw [e] at h
    exact fun v H' μ' x R' i => go d S' v H' μ' e x R' i h
  | exc c fs S' =>
    rw [e] at h
    exact hx c fs S' h
  | bad =>
    rw [e] at h
    exact hb h
end
end SL
set_option Elab.async false
set_option linter.all false
set_option maxRecDepth 100000
set_option maxHeartbeats 1000000
/-! A2: operators, built-in functions and methods upon data. -/
namespace SL
open PySem PySem.Spec L2

/-- a pure end without an error -/
def GoodV (K : PySem.W.Frag) (C : Nat → Addr) (μ : Mu) (H : Hp) (Q : VK) : Out D → Prop
  | .ok d S' => ∀ v H' μ', Ext μ H μ' H' → RepS K C μ' S' H' → Is K μ' H' d v → Q v H'
  | _ => False
def rD2 (K : PySem.W.Frag) (C : Nat → Addr) (g : D → D → Sto → Out D) : R2 := fun x y H Q => ∃ μ S d e, RepS K C μ S H ∧ Is K μ H d x ∧ Is K μ H e y ∧ GoodV K C μ H Q (g d e S)
def rDL (K : PySem.W.Frag) (C : Nat → Addr) (g : List D → Sto → Out D) : List V → Hp → VK → Prop := fun xs H Q => ∃ μ S ds, RepS K C μ S H ∧ IsL K μ H ds xs ∧ GoodV K C μ H Q (g ds S)
def rDM (K : PySem.W.Frag) (C : Nat → Addr) (g : D → List D → Sto → Out D) : V → List V → Hp → VK → Prop := fun x xs H Q => ∃ μ S d ds, RepS K C μ S H ∧ Is K μ H d x ∧ IsL K μ H ds xs ∧ GoodV K C μ H Q (g d ds S)

section
variable {K : PySem.W.Frag} {C : Nat → Addr} {μ μ' : Mu} {H H' : Hp} {S : Sto}
theorem GoodV.here {Q : VK} {d : D} {v : V} (h : GoodV K C μ H Q (.ok d S)) (R : RepS K C μ S H) (i : Is K μ H d v) : Q v H := h v H μ Ext.refl R i
/-- a new list, by value -/
theorem GoodV.newL {Q : VK} {ds : List D} {vs : List V} {p : Addr} (h : GoodV K C μ H Q (.ok (.lst ds) S)) (R : RepS K C μ S H) (i : IsL K μ H ds vs) (n : H p = none) : kno K Q (.ref p) (upd H p (.lst vs)) := fun z =>
  h _ _ _ (ext_alloc R.toRep0 n) (R.alloc n z) ⟨p, vs, rfl, R.notin n, upd_same, i.mono R.toRep0 (ext_alloc R.toRep0 n)⟩
theorem GoodV.newT {Q : VK} {ds : List D} {vs : List V} {p : Addr} (h : GoodV K C μ H Q (.ok (.tup ds) S)) (R : RepS K C μ S H) (i : IsL K μ H ds vs) (n : H p = none) : kno K Q (.ref p) (upd H p (.tup vs)) := fun z =>
  h _ _ _ (ext_alloc R.toRep0 n) (R.alloc n z) ⟨p, vs, rfl, .inl (.inl upd_same), i.mono R.toRep0 (ext_alloc R.toRep0 n)⟩
end

theorem szl : sizeLine = sz := sizeLine_eq

theorem small_ok {i : Int} (h : small i = true) : -(2 ^ 64) < i ∧ i < 2 ^ 64 := by
  unfold small at h
  rw [Bool.and_eq_true] at h
  exact ⟨of_decide_eq_true h.1, of_decide_eq_true h.2⟩
theorem wide_ok {i : Int} (h : wide i = true) : i.natAbs < 2 ^ 100000 := of_decide_eq_true h

theorem reps_flat (a : List Nat) : ∀ n : Nat, ∀ acc : List Nat, (List.replicate n a.toArray).foldl (· ++ ·) acc.toArray = (acc ++ (List.replicate n a).flatten).toArray
  | 0, acc => by simp
  | n + 1, acc => by
    rw [List.replicate_succ, List.foldl_cons, List.replicate_succ, List.flatten_cons, ← List.append_assoc]
    have e : acc.toArray ++ a.toArray = (acc ++ a).toArray := by simp
    rw [e]
    exact reps_flat a n (acc ++ a)
theorem txt_mul (a : List Nat) {j : Int} (h : 0 ≤ j) : Txt.mul ⟨a.toArray⟩ j = ⟨((List.replicate j.toNat a).flatten).toArray⟩ := by
  unfold Txt.mul
  split
  · have e : j.toNat = 0 := by omega
    rw [e]
    rfl
  · split
    · rename_i h1 h2
      rw [Bool.or_eq_true] at h2
      rcases h2 with h2 | h2
      · have e : j = 1 := by simpa using h2
        subst e
        simp
      · have e : a = [] := by simpa [Str.length] using h2
        subst e
        simp
    · have e := reps_flat a j.toNat []
      simp only [List.nil_append] at e
      rw [← e]
theorem mul_fits {a : List Nat} {j : Int} (h1 : 0 ≤ j) (h2 : j ≤ 100000) (h3 : a.length * j.toNat ≤ sz) : MulOk ⟨a.toArray⟩ j := by
  refine ⟨by simp; omega, fun h4 _ => ?_, fun _ _ => ?_⟩
  · have e : ((⟨a.toArray⟩ : Str).length : Int) = (a.length : Int) := by simp [Str.length]
    rw [e, gt_iff_lt, Int.not_lt, Int.le_ediv_iff_mul_le (by omega)]
    have : (a.length : Int) * j = ((a.length * j.toNat : Nat) : Int) := by
      rw [Int.natCast_mul, Int.toNat_of_nonneg h1]
    rw [this]
    have : sz = 16777216 := rfl
    omega
  · have e : (⟨a.toArray⟩ : Str).length = a.length := by simp [Str.length]
    rw [e]
    unfold Builtin.Str.tooLong
    rw [szl]
    simpa using h3
section
variable {X : Cx} {C : Nat → Addr}
theorem cat_ok {a b : D} {Q : VK} {μ : Mu} {S : Sto} {H : Hp} {x y : V} {v u : Value} {pins : List (Addr × Obj)} {s : Shared} {σ : St} (R : RepS X.K C μ S H) (ia : Is X.K μ H a x) (ib : Is X.K μ H b y) (I : Inv X pins σ H s) (rx : RelV x v) (ry : RelV y u)
    (g : GoodV X.K C μ H Q (match items S a, items S b with
      | some x, some y => if x.length + y.length ≤ sz then .ok (.lst (x ++ y)) S else .bad
      | _, _ => .bad)) : wpAny (model X.prog X.w) X.A (binaryOp .Add v u) (EP X pins σ Q) X.xe s := by
  cases e1 : items S a with
  | none => rw [e1] at g; exact g.elim
  | some xs =>
    cases e2 : items S b with
    | none => rw [e1, e2] at g; exact g.elim
    | some ys =>
      rw [e1, e2] at g
      dsimp only at g
      obtain ⟨p, vs, rfl, hp, l1⟩ := R.items ia e1
      obtain ⟨q, us, rfl, hq, l2⟩ := R.items ib e2
      split at g
      · rename_i hl
        exact kno_op op_cat pins s σ H _ _ v u Q I rx ry ⟨p, q, vs, us, rfl, rfl, hp, hq, by rw [l1.length, l2.length, szl]; exact hl, fun r nr => g.newL R (l1.append l2) nr⟩
      · exact g.elim
theorem op_catD : OpR X (binaryOp .Add) (rD2 X.K C catD) := by
  intro pins s σ H x y v u Q I rx ry h
  obtain ⟨μ, S, a, b, R, ia, ib, g⟩ := h
  unfold catD at g
  cases e1 : items S a with
  | none => rw [e1] at g; exact g.elim
  | some xs =>
    cases e2 : items S b with
    | none => rw [e1, e2] at g; exact g.elim
    | some ys =>
      rw [e1, e2] at g
      dsimp only at g
      obtain ⟨p, vs, rfl, hp, l1⟩ := R.items ia e1
      obtain ⟨q, us, rfl, hq, l2⟩ := R.items ib e2
      split at g
      · rename_i hl
        refine kno_op op_cat pins s σ H _ _ v u Q I rx ry ⟨p, q, vs, us, rfl, rfl, hp, hq, by rw [l1.length, l2.length, szl]; exact hl, fun r nr z => ?_⟩
        refine g _ _ _ (ext_own nr) (R.push nr z ⟨vs ++ us, upd_same, (l1.append l2).mono R.toRep0 (ext_own nr)⟩) ⟨r, rfl, ?_⟩
        show (μ.l ++ [r])[S.length]? = some r
        rw [← R.len, List.getElem?_append_right (Nat.le_refl _)]
        simp
      · exact g.elim
theorem op_addD : OpR X (binaryOp .Add) (rD2 X.K C (binD .add)) := by
  intro pins s σ H x y v u Q I rx ry h
  obtain ⟨μ, S, d, e, R, ia, ib, g⟩ := h
  cases d with
  | int i =>
    cases e with
    | int j =>
      cases ia; cases ib
      exact op_add pins s σ H _ _ v u Q I rx ry ⟨i, j, rfl, rfl, g.here R rfl⟩
    | _ => exact cat_ok R ia ib I rx ry g
  | str a =>
    cases e with
    | str b =>
      cases ia; cases ib
      simp only [binD] at g
      split at g
      · rename_i hl
        refine op_add_str pins s σ H _ _ v u Q I rx ry ⟨_, _, rfl, rfl, by rw [szl]; simpa [Str.length] using hl, ?_⟩
        have e : (⟨a.toArray⟩ : Str) ++ ⟨b.toArray⟩ = ⟨(a ++ b).toArray⟩ := by
          show Str.mk (a.toArray ++ b.toArray) = _
          simp
        rw [e]
        exact g.here R rfl
      · exact g.elim
    | _ => exact cat_ok R ia ib I rx ry g
  | tup a =>
    cases e with
    | tup b =>
      obtain ⟨p, vs, rfl, hp, l1⟩ := ia
      obtain ⟨q, us, rfl, hq, l2⟩ := ib
      simp only [binD] at g
      split at g
      · rename_i hl
        refine kno_op op_catA pins s σ H _ _ v u Q I rx ry ⟨p, q, vs, us, rfl, rfl, hp, hq, by rw [l1.length, l2.length, szl]; exact hl, fun e => ?_, fun _ e => ?_, fun _ _ r nr => g.newT R (l1.append l2) nr⟩
        · subst e
          have e0 : a = [] := by
            have := l1.length
            cases a with
            | nil => rfl
            | cons _ _ => simp at this
          subst e0
          exact fun _ => g.here R ⟨q, us, rfl, hq, l2⟩
        · subst e
          have e0 : b = [] := by
            have := l2.length
            cases b with
            | nil => rfl
            | cons _ _ => simp at this
          subst e0
          exact fun _ => g.here R ⟨p, vs, rfl, hp, by rw [List.append_nil]; exact l1⟩
      · exact g.elim
    | _ => exact cat_ok R ia ib I rx ry g
  | _ => exact cat_ok R ia ib I rx ry (by cases e <;> exact g)
theorem op_subD : OpR X (binaryOp .Sub) (rD2 X.K C (binD .sub)) := by
  intro pins s σ H x y v u Q I rx ry h
  obtain ⟨μ, S, d, e, R, ia, ib, g⟩ := h
  cases d <;> cases e <;> try (exact g.elim)
  rename_i i j
  cases ia; cases ib
  exact op_sub pins s σ H _ _ v u Q I rx ry ⟨i, j, rfl, rfl, g.here R rfl⟩
theorem op_modD : OpR X (binaryOp .Mod) (rD2 X.K C (binD .mod)) := by
  intro pins s σ H x y v u Q I rx ry h
  obtain ⟨μ, S, d, e, R, ia, ib, g⟩ := h
  cases d <;> cases e <;> try (exact g.elim)
  rename_i i j
  cases ia; cases ib
  simp only [binD] at g
  split at g
  · rename_i hj
    exact op_mod pins s σ H _ _ v u Q I rx ry ⟨i, j, rfl, rfl, hj, g.here R rfl⟩
  · exact g.elim
theorem op_fdivD : OpR X (binaryOp .FloorDiv) (rD2 X.K C (binD .fdiv)) := by
  intro pins s σ H x y v u Q I rx ry h
  obtain ⟨μ, S, d, e, R, ia, ib, g⟩ := h
  cases d <;> cases e <;> try (exact g.elim)
  rename_i i j
  cases ia; cases ib
  simp only [binD] at g
  split at g
  · rename_i hj
    exact op_fdiv pins s σ H _ _ v u Q I rx ry ⟨i, j, rfl, rfl, hj, g.here R rfl⟩
  · exact g.elim
theorem op_powD : OpR X (binaryOp .Pow) (rD2 X.K C (binD .pow)) := by
  intro pins s σ H x y v u Q I rx ry h
  obtain ⟨μ, S, d, e, R, ia, ib, g⟩ := h
  cases d <;> cases e <;> try (exact g.elim)
  rename_i i j
  cases ia; cases ib
  simp only [binD] at g
  split at g
  · rename_i hj
    have hs := small_ok hj.2.2
    exact op_pow pins s σ H _ _ v u Q I rx ry ⟨i, j, rfl, rfl, ⟨hj.1, hj.2.1, by omega⟩, g.here R rfl⟩
  · exact g.elim
theorem op_mulD : OpR X (binaryOp .Mult) (rD2 X.K C (binD .mul)) := by
  intro pins s σ H x y v u Q I rx ry h
  obtain ⟨μ, S, d, e, R, ia, ib, g⟩ := h
  cases d with
  | int i =>
    cases e with
    | int j =>
      cases ia; cases ib
      simp only [binD] at g
      split at g
      · rename_i hc
        rw [Bool.or_eq_true, Bool.or_eq_true, Bool.and_eq_true] at hc
        rcases hc with (hc | hc) | ⟨h1, h2⟩
        · exact op_mul pins s σ H _ _ v u Q I rx ry ⟨i, j, rfl, rfl, .inl (small_ok hc), g.here R rfl⟩
        · exact op_mul pins s σ H _ _ v u Q I rx ry ⟨i, j, rfl, rfl, .inr (small_ok hc), g.here R rfl⟩
        · exact op_mulW pins s σ H _ _ v u Q I rx ry ⟨i, j, rfl, rfl, wide_mul (wide_ok h1) (wide_ok h2) (by decide) (by decide) (by decide), g.here R rfl⟩
      · exact g.elim
    | _ => exact g.elim
  | lst a =>
    cases e with
    | int j =>
      obtain ⟨p, vs, rfl, _, hp, l1⟩ := ia
      cases ib
      simp only [binD] at g
      split at g
      · rename_i hc
        obtain ⟨h1, h2, h3⟩ := hc
        exact kno_op op_rep pins s σ H _ _ v u Q I rx ry ⟨p, j, vs, rfl, rfl, hp, by omega, by omega, by rw [l1.length, szl]; exact h3, fun r nr => g.newL R (l1.rep _) nr⟩
      · exact g.elim
    | _ => exact g.elim
  | str a =>
    cases e with
    | int j =>
      cases ia; cases ib
      simp only [binD] at g
      split at g
      · rename_i hc
        obtain ⟨h1, h2, h3⟩ := hc
        obtain ⟨t, rfl⟩ := rx
        obtain ⟨t', rfl⟩ := ry
        refine SB.mul (mul_fits h1 h2 h3) fun t2 k => ⟨.str (Txt.mul ⟨a.toArray⟩ j), H, I.tok k, ⟨t2, rfl⟩, ?_⟩
        rw [txt_mul a h1]
        exact g.here R rfl
      · exact g.elim
    | _ => exact g.elim
  | _ => cases e <;> exact g.elim
end
end SL
set_option Elab.async false
set_option linter.all false
set_option maxRecDepth 100000
set_option maxHeartbeats 1000000
/-! A3: comparisons, subscripts, slices, built-in functions, methods. -/
namespace SL
open PySem PySem.Spec L2

section
variable {K : PySem.W.Frag} {C : Nat → Addr} {μ : Mu} {H : Hp} {S : Sto}
theorem resL_dp {f : D → Option PyData} (h : ∀ d v p, Is K μ H d v → f d = some p → Dp K H v p) : ∀ (ds : List D) (vs : List V) (ps : List PyData), IsL K μ H ds vs → resL f ds = some ps → DpAll K H vs ps
  | [], vs, ps, i, e => by
    cases (show vs = [] from i)
    cases e
    exact .nil
  | d :: ds, vs, ps, i, e => by
    obtain ⟨v, r, rfl, i1, i2⟩ := i
    unfold resL at e
    cases e1 : f d with
    | none => rw [e1] at e; cases e
    | some a =>
      cases e2 : resL f ds with
      | none => rw [e1, e2] at e; cases e
      | some b =>
        rw [e1, e2] at e
        cases e
        exact .cons (h d v a i1 e1) (resL_dp h ds r b i2 e2)
theorem res_dp (R : RepS K C μ S H) : ∀ (n : Nat) (d : D) (v : V) (p : PyData), Is K μ H d v → res S n d = some p → Dp K H v p
  | 0, _, _, _, _, e => by cases e
  | n + 1, .non, v, p, i, e => by cases i; cases e; exact .non
  | n + 1, .bl b, v, p, i, e => by cases i; cases e; exact .bl b
  | n + 1, .int b, v, p, i, e => by cases i; cases e; exact .int b
  | n + 1, .str b, v, p, i, e => by cases i; cases e; exact .str _
  | n + 1, .tup ds, v, p, i, e => by
    obtain ⟨a, vs, rfl, q, l⟩ := i
    unfold res at e
    cases e1 : resL (res S n) ds with
    | none => rw [e1] at e; cases e
    | some ps =>
      rw [e1] at e
      cases e
      exact .tup q (resL_dp (res_dp R n) ds vs ps l e1)
  | n + 1, .lst ds, v, p, i, e => by
    obtain ⟨a, vs, rfl, _, q, l⟩ := i
    unfold res at e
    cases e1 : resL (res S n) ds with
    | none => rw [e1] at e; cases e
    | some ps =>
      rw [e1] at e
      cases e
      exact .lst (.inl (.inl q)) (resL_dp (res_dp R n) ds vs ps l e1)
  | n + 1, .scr _, v, p, i, e => by cases e
  | n + 1, .dct _ _, v, p, i, e => by cases e
  | n + 1, .ref k, v, p, i, e => by
    unfold res at e
    cases e0 : S[k]? with
    | none => simp only [e0] at e; cases e
    | some o =>
      simp only [e0] at e
      cases o with
      | lst ds =>
        obtain ⟨a, rfl, m, vs, q, l⟩ := R.at i e0
        dsimp only at e
        cases e1 : resL (res S n) ds with
        | none => rw [e1] at e; cases e
        | some ps =>
          rw [e1] at e
          cases e
          exact .lst (.inl (.inl q)) (resL_dp (res_dp R n) ds vs ps l e1)
      | ins _ _ => cases e
      | exc _ _ => cases e
      | dct _ _ => cases e
theorem look_dp (R : RepS K C μ S H) {d : D} {v : V} {p : PyData} (i : Is K μ H d v) (e : look S d = some p) : Dp K H v p ∧ SeqAt.shaped p = true := by
  unfold look at e
  cases e1 : res S 70 d with
  | none => rw [e1] at e; cases e
  | some q =>
    rw [e1] at e
    dsimp only at e
    split at e
    · rename_i hf
      cases e
      exact ⟨res_dp R 70 d v _ i e1, hf⟩
    · cases e
theorem resL_fit : ∀ {ds : List D} {ps : List PyData}, resL (look S) ds = some ps → PyData.canLayAll0 ps = true
  | [], ps, e => by cases e; simp [PyData.canLayAll0]
  | d :: ds, ps, e => by
    unfold resL at e
    cases e1 : look S d with
    | none => rw [e1] at e; cases e
    | some a =>
      cases e2 : resL (look S) ds with
      | none => rw [e1, e2] at e; cases e
      | some b =>
        rw [e1, e2] at e
        cases e
        have h1 : fit a = true := by
          unfold look at e1
          cases q : res S 70 d with
          | none => rw [q] at e1; cases e1
          | some z =>
            rw [q] at e1
            dsimp only at e1
            split at e1
            · cases e1; assumption
            · cases e1
        unfold fit at h1
        rw [Bool.and_eq_true] at h1
        simp only [PyData.canLayAll0, h1.1, resL_fit e2, Bool.and_self]
end

section
variable {X : Cx} {C : Nat → Addr}
theorem boolV {K : PySem.W.Frag} {C : Nat → Addr} {μ : Mu} {H : Hp} {Q : VK} {S : Sto} {o : Option Bool} (R : RepS K C μ S H) (g : GoodV K C μ H Q (boolD o S)) : ∃ b, o = some b ∧ Q (.bl b) H := by
  cases o with
  | none => exact g.elim
  | some b => exact ⟨b, rfl, g.here R rfl⟩
theorem eqD_dp {K : PySem.W.Frag} {μ : Mu} {H : Hp} {S : Sto} {d e : D} {x y : V} {b : Bool} (R : RepS K C μ S H) (ia : Is K μ H d x) (ib : Is K μ H e y) (h : eqLook S d e = some b) :
    ∃ p q, Dp K H x p ∧ Dp K H y q ∧ SeqAt.shaped p = true ∧ SeqAt.shaped q = true ∧ b = PyData.eqv p q := by
  unfold eqLook at h
  cases e1 : look S d with
  | none => rw [e1] at h; cases h
  | some p =>
    cases e2 : look S e with
    | none => rw [e1, e2] at h; cases h
    | some q =>
      rw [e1, e2] at h
      cases h
      obtain ⟨d1, s1⟩ := look_dp R ia e1
      obtain ⟨d2, s2⟩ := look_dp R ib e2
      exact ⟨p, q, d1, d2, s1, s2, rfl⟩
theorem eqStr_shape {d e : D} {b : Bool} (h : eqStr d e = some b) : ∃ x y, d = .str x ∧ e = .str y ∧ b = decide (x = y) := by
  unfold eqStr at h
  split at h
  · cases h; exact ⟨_, _, rfl, rfl, rfl⟩
  · cases h
theorem dec_str (x y : List Nat) : decide (V.str ⟨x.toArray⟩ = V.str ⟨y.toArray⟩) = decide (x = y) := by
  apply decide_eq_decide.mpr
  constructor
  · intro h
    have := congrArg (fun z : V => match z with | .str w => w.cps.toList | _ => []) h
    simpa using this
  · intro h; rw [h]
theorem op_eqDD (hu : X.A.units + 64 < cLine) : OpR X (compareOp .Eq) (rD2 X.K C (cmpD .eq)) := by
  intro pins s σ H x y v u Q I rx ry h
  obtain ⟨μ, S, d, e, R, ia, ib, g⟩ := h
  obtain ⟨b, e1, q⟩ := boolV R g
  unfold eqD at e1
  cases e2 : eqStr d e with
  | some r =>
    rw [e2] at e1
    cases e1
    obtain ⟨z1, z2, rfl, rfl, rfl⟩ := eqStr_shape e2
    cases ia; cases ib
    exact op_eq pins s σ H _ _ v u Q I rx ry ⟨rfl, by rw [dec_str]; exact q⟩
  | none =>
    rw [e2] at e1
    obtain ⟨p, r, d1, d2, s1, s2, rfl⟩ := eqD_dp R ia ib e1
    exact op_eqD hu pins s σ H _ _ v u Q I rx ry ⟨p, r, d1, d2, s1, s2, q⟩
theorem op_neDD (hu : X.A.units + 64 < cLine) : OpR X (compareOp .NotEq) (rD2 X.K C (cmpD .ne)) := by
  intro pins s σ H x y v u Q I rx ry h
  obtain ⟨μ, S, d, e, R, ia, ib, g⟩ := h
  obtain ⟨b, e0, q⟩ := boolV R g
  obtain ⟨c, e1, rfl⟩ := Option.map_eq_some_iff.mp e0
  unfold eqD at e1
  cases e2 : eqStr d e with
  | some r =>
    rw [e2] at e1
    cases e1
    obtain ⟨z1, z2, rfl, rfl, rfl⟩ := eqStr_shape e2
    cases ia; cases ib
    exact op_ne pins s σ H _ _ v u Q I rx ry ⟨rfl, by rw [dec_str]; exact q⟩
  | none =>
    rw [e2] at e1
    obtain ⟨p, r, d1, d2, s1, s2, rfl⟩ := eqD_dp R ia ib e1
    exact op_neD hu pins s σ H _ _ v u Q I rx ry ⟨p, r, d1, d2, s1, s2, q⟩
theorem op_ltDD : OpR X (compareOp .Lt) (rD2 X.K C (cmpD .lt)) := by
  intro pins s σ H x y v u Q I rx ry h
  obtain ⟨μ, S, d, e, R, ia, ib, g⟩ := h
  obtain ⟨b, e1, q⟩ := boolV R g
  cases d <;> cases e <;> try (cases e1)
  · rename_i i j
    cases ia; cases ib
    exact op_lt pins s σ H _ _ v u Q I rx ry ⟨i, j, rfl, rfl, q⟩
  · rename_i i j
    cases ia; cases ib
    exact op_lt_str pins s σ H _ _ v u Q I rx ry ⟨_, _, rfl, rfl, by simpa using q⟩
theorem op_leDD : OpR X (compareOp .LtE) (rD2 X.K C (cmpD .le)) := by
  intro pins s σ H x y v u Q I rx ry h
  obtain ⟨μ, S, d, e, R, ia, ib, g⟩ := h
  obtain ⟨b, e1, q⟩ := boolV R g
  cases d <;> cases e <;> try (cases e1)
  rename_i i j
  cases ia; cases ib
  exact op_le pins s σ H _ _ v u Q I rx ry ⟨i, j, rfl, rfl, q⟩
theorem op_gtDD : OpR X (compareOp .Gt) (rD2 X.K C (cmpD .gt)) := by
  intro pins s σ H x y v u Q I rx ry h
  obtain ⟨μ, S, d, e, R, ia, ib, g⟩ := h
  obtain ⟨b, e1, q⟩ := boolV R g
  cases d <;> cases e <;> try (cases e1)
  rename_i i j
  cases ia; cases ib
  exact op_gt pins s σ H _ _ v u Q I rx ry ⟨i, j, rfl, rfl, q⟩
theorem op_geDD : OpR X (compareOp .GtE) (rD2 X.K C (cmpD .ge)) := by
  intro pins s σ H x y v u Q I rx ry h
  obtain ⟨μ, S, d, e, R, ia, ib, g⟩ := h
  obtain ⟨b, e1, q⟩ := boolV R g
  cases d <;> cases e <;> try (cases e1)
  rename_i i j
  cases ia; cases ib
  exact op_ge pins s σ H _ _ v u Q I rx ry ⟨i, j, rfl, rfl, q⟩

/-- pairs as keys and values -/
theorem kvs_get {K : PySem.W.Frag} {μ : Mu} {H : Hp} (k : DK) : ∀ {ks : List DK} {ds : List D} {kvs : List (Key × V)}, kvs.map (·.1) = ks.map keyOf → IsL K μ H ds (kvs.map (·.2)) → match kGet ks ds k with
    | some d => ∃ v, valV kvs (keyOf k) = some v ∧ Is K μ H d v
    | none => valV kvs (keyOf k) = none
  | [], ds, kvs, e, l => by
    cases kvs with
    | nil => cases ds <;> rfl
    | cons _ _ => cases e
  | k' :: ks, ds, kvs, e, l => by
    cases kvs with
    | nil => cases e
    | cons p kvs =>
      rw [List.map_cons, List.map_cons] at e
      injection e with e1 e2
      cases ds with
      | nil => cases l
      | cons d ds =>
        obtain ⟨v, r, er, i, l⟩ := l
        rw [List.map_cons] at er
        injection er with er1 er2
        subst er1 er2
        have ih := kvs_get k (ks := ks) (ds := ds) e2 l
        unfold kGet
        by_cases h : k' = k
        · rw [if_pos h]
          exact ⟨p.2, valV_pos (by rw [e1, h]), i⟩
        · rw [if_neg h]
          have : ¬ p.1 = keyOf k := fun z => h (keyOf_inj (e1.symm.trans z))
          rw [valV_neg this]
          exact ih
theorem any_key {ks : List DK} {kvs : List (Key × V)} (k : DK) (e : kvs.map (·.1) = ks.map keyOf) : (kvs.any fun kv => decide (kv.1 = keyOf k)) = decide (k ∈ ks) := by
  induction ks generalizing kvs with
  | nil =>
    cases kvs with
    | nil => rfl
    | cons _ _ => cases e
  | cons k' ks ih =>
    cases kvs with
    | nil => cases e
    | cons p kvs =>
      rw [List.map_cons, List.map_cons] at e
      injection e with e1 e2
      rw [List.any_cons, ih e2, e1]
      by_cases h : k' = k
      · subst h; simp
      · have : ¬ keyOf k' = keyOf k := fun z => h (keyOf_inj z)
        simp [this, Ne.symm h]
theorem kvs_set {K : PySem.W.Frag} {μ : Mu} {H : Hp} {k : DK} {d : D} {v : V} (i : Is K μ H d v) : ∀ {ks : List DK} {ds : List D} {kvs : List (Key × V)}, kvs.map (·.1) = ks.map keyOf → IsL K μ H ds (kvs.map (·.2)) →
    (kvs.map (fun kv => if kv.1 = keyOf k then (kv.1, v) else kv)).map (·.1) = ks.map keyOf ∧ IsL K μ H (kSet ks ds k d) ((kvs.map (fun kv => if kv.1 = keyOf k then (kv.1, v) else kv)).map (·.2))
  | [], ds, kvs, e, l => by
    cases kvs with
    | nil => cases ds <;> exact ⟨rfl, l⟩
    | cons _ _ => cases e
  | k' :: ks, ds, kvs, e, l => by
    cases kvs with
    | nil => cases e
    | cons p kvs =>
      rw [List.map_cons, List.map_cons] at e
      injection e with e1 e2
      cases ds with
      | nil => cases l
      | cons d' ds =>
        obtain ⟨v', r, er, i', l⟩ := l
        rw [List.map_cons] at er
        injection er with er1 er2
        subst er1 er2
        obtain ⟨h1, h2⟩ := kvs_set (k := k) i (ks := ks) (ds := ds) e2 l
        by_cases h : k' = k
        · have h' : p.1 = keyOf k := by rw [e1, h]
          refine ⟨?_, ?_⟩
          · rw [List.map_cons, List.map_cons, List.map_cons, h1, if_pos h', e1]
          · unfold kSet
            rw [List.map_cons, List.map_cons, if_pos h, if_pos h']
            exact ⟨v, _, rfl, i, h2⟩
        · have h' : ¬ p.1 = keyOf k := fun z => h (keyOf_inj (e1.symm.trans z))
          refine ⟨?_, ?_⟩
          · rw [List.map_cons, List.map_cons, List.map_cons, h1, if_neg h', e1]
          · unfold kSet
            rw [List.map_cons, List.map_cons, if_neg h, if_neg h']
            exact ⟨_, _, rfl, i', h2⟩
theorem kvs_put {K : PySem.W.Frag} {μ : Mu} {H : Hp} {k : DK} {d : D} {v : V} (i : Is K μ H d v) {ks : List DK} {ds : List D} {kvs : List (Key × V)} (e : kvs.map (·.1) = ks.map keyOf) (l : IsL K μ H ds (kvs.map (·.2))) :
    (putK kvs (keyOf k) v).map (·.1) = (kPutK ks k).map keyOf ∧ IsL K μ H (kPutD ks ds k d) ((putK kvs (keyOf k) v).map (·.2)) := by
  unfold putK kPutK kPutD
  rw [any_key k e]
  by_cases h : k ∈ ks
  · rw [if_pos (by simpa using h), if_pos h, if_pos h]
    exact kvs_set i e l
  · rw [if_neg (by simpa using h), if_neg h, if_neg h]
    refine ⟨by rw [List.map_append, List.map_append, e]; rfl, ?_⟩
    rw [List.map_append]
    exact l.append ⟨v, [], rfl, i, rfl⟩
theorem kvs_len {ks : List DK} {kvs : List (Key × V)} (e : kvs.map (·.1) = ks.map keyOf) : kvs.length = ks.length := by
  have := congrArg List.length e
  simpa using this
/-- a key of a dict, as a value -/
theorem dkOf_is {K : PySem.W.Frag} {μ : Mu} {H : Hp} {d : D} {v : V} {k : DK} (i : Is K μ H d v) (e : dkOf d = some k) : v = kV (keyOf k) := by
  cases d <;> cases e <;> cases i <;> rfl
theorem dkD_is {K : PySem.W.Frag} {μ : Mu} {H : Hp} (k : DK) : Is K μ H (dkD k) (kV (keyOf k)) := by
  cases k <;> rfl
theorem kGet_mem (k : DK) : ∀ {ks : List DK} {ds : List D}, ks.length = ds.length → (kGet ks ds k).isSome = decide (k ∈ ks)
  | [], ds, _ => by cases ds <;> rfl
  | k' :: ks, [], h => by cases h
  | k' :: ks, d :: ds, h => by
    unfold kGet
    by_cases e : k' = k
    · subst e; simp
    · rw [if_neg e, kGet_mem k (by simpa using h)]
      simp [Ne.symm e]
/-- a dict of the pure meaning stands in the heap -/
theorem dict_at {K : PySem.W.Frag} {μ : Mu} {H : Hp} {S : Sto} {d : D} {v : V} {ks : List DK} {ds : List D} (R : RepS K C μ S H) (i : Is K μ H d v) (e : dictOf S d = some (ks, ds)) : ∃ a kvs, v = .ref a ∧ H a = some (.dK kvs) ∧ kvs.map (·.1) = ks.map keyOf ∧ IsL K μ H ds (kvs.map (·.2)) := by
  cases d with
  | dct ks' ds' =>
    cases e
    obtain ⟨a, kvs, rfl, _, h1, h2, h3⟩ := i
    exact ⟨a, kvs, rfl, h1, h2, h3⟩
  | ref k =>
    cases q : S[k]? with
    | none => simp only [dictOf, q] at e; cases e
    | some o =>
      simp only [dictOf, q] at e
      cases o with
      | dct ks' ds' =>
        cases e
        obtain ⟨a, rfl, m, kvs, h1, h2, h3⟩ := R.at i q
        exact ⟨a, kvs, rfl, h1, h2, h3⟩
      | _ => cases e
  | _ => cases e
theorem kvs_some {K : PySem.W.Frag} {μ : Mu} {H : Hp} {k : DK} {ks : List DK} {ds : List D} {kvs : List (Key × V)} (e : kvs.map (·.1) = ks.map keyOf) (l : IsL K μ H ds (kvs.map (·.2))) : (valV kvs (keyOf k)).isSome = decide (k ∈ ks) := by
  have hl : ks.length = ds.length := by
    have h1 := congrArg List.length e
    have h2 := l.length
    simp at h1 h2
    omega
  have h := kvs_get (k := k) e l
  rw [← kGet_mem k hl]
  cases q : kGet ks ds k with
  | none => rw [q] at h; rw [h]; rfl
  | some d =>
    rw [q] at h
    obtain ⟨v, ev, _⟩ := h
    rw [ev]; rfl
theorem in_dict_ok (hu : X.A.units + 65 < cLine) {d e : D} {b : Bool} {Q : VK} {μ : Mu} {S : Sto} {H : Hp} {x y : V} {v u : Value} {pins : List (Addr × Obj)} {s : Shared} {σ : St} (neg : Bool) (R : RepS X.K C μ S H) (ia : Is X.K μ H d x) (ib : Is X.K μ H e y) (I : Inv X pins σ H s) (rx : RelV x v) (ry : RelV y u)
    (g : inDict S d e = some b) (q : Q (.bl (if neg then !b else b)) H) : wpAny (model X.prog X.w) X.A (compareOp (if neg then .NotIn else .In) v u) (EP X pins σ Q) X.xe s := by
  unfold inDict at g
  cases e1 : dictOf S e with
  | none => rw [e1] at g; cases g
  | some kd =>
    cases e2 : dkOf d with
    | none => rw [e1, e2] at g; cases g
    | some k =>
      rw [e1, e2] at g
      cases g
      obtain ⟨ks, ds⟩ := kd
      obtain ⟨a, kvs, rfl, h1, h2, h3⟩ := dict_at R ib e1
      cases dkOf_is ia e2
      cases ry
      have hs := kvs_some (k := k) h2 h3
      cases neg with
      | false => exact d_in (by omega) I (DGet.k h1) rx fun s' I' => ⟨.bl _, H, I', rfl, by rw [hs]; exact q⟩
      | true => exact d_notIn (by omega) I (DGet.k h1) rx fun s' I' => ⟨.bl _, H, I', rfl, by rw [hs]; exact q⟩
/-- x in a list or tuple -/
theorem in_seq_ok (hu : X.A.units + 65 < cLine) {d e : D} {b : Bool} {Q : VK} {μ : Mu} {S : Sto} {H : Hp} {x y : V} {v u : Value} {pins : List (Addr × Obj)} {s : Shared} {σ : St} (neg : Bool) (R : RepS X.K C μ S H) (ia : Is X.K μ H d x) (ib : Is X.K μ H e y) (I : Inv X pins σ H s) (rx : RelV x v) (ry : RelV y u)
    (g : inSeq S d e = some b) (q : Q (.bl (if neg then !b else b)) H) : wpAny (model X.prog X.w) X.A (compareOp (if neg then .NotIn else .In) v u) (EP X pins σ Q) X.xe s := by
  unfold inSeq at g
  cases e1 : look S d with
  | none => rw [e1] at g; cases g
  | some p =>
    cases e2 : seqOf S e with
    | none => rw [e1, e2] at g; cases g
    | some ds =>
      rw [e1, e2] at g
      dsimp only at g
      cases e3 : resL (look S) ds with
      | none => rw [e3] at g; cases g
      | some ys =>
        rw [e3] at g
        cases g
        obtain ⟨d1, s1⟩ := look_dp R ia e1
        obtain ⟨a, vs, rfl, hq, l⟩ := R.seq ib e2
        have dl : DpAll X.K H vs ys := resL_dp (fun d v p i e => (look_dp R i e).1) ds vs ys l e3
        obtain ⟨as, r1⟩ := Dp.reads I p x v d1 rx
        have cl := resL_fit e3
        have sd : p.canLay0 = true ∧ p.depth ≤ 64 := by
          have z : (p.canLay0 && decide (p.depth ≤ 64)) = true := s1
          rw [Bool.and_eq_true] at z
          exact ⟨z.1, of_decide_eq_true z.2⟩
        have hr : X.A.units + 1 + min (PyData.depthAll ys) p.depth < cLine := by
          have := Nat.min_le_right (PyData.depthAll ys) p.depth
          omega
        rcases hq with hq | hq
        · obtain ⟨bs, r2⟩ := Dp.reads I (.list ys) (.ref a) u (.lst hq dl) ry
          cases neg with
          | false => exact SeqAt.in_list_reads r2 r1 cl sd.1 hr ⟨.bl _, H, I, rfl, q⟩
          | true => exact SeqAt.notIn_list_reads r2 r1 cl sd.1 hr ⟨.bl _, H, I, rfl, q⟩
        · obtain ⟨bs, r2⟩ := Dp.reads I (.tuple ys) (.ref a) u (.tup hq dl) ry
          cases neg with
          | false => exact SeqAt.in_tuple_reads r2 r1 cl sd.1 hr ⟨.bl _, H, I, rfl, q⟩
          | true => exact SeqAt.notIn_tuple_reads r2 r1 cl sd.1 hr ⟨.bl _, H, I, rfl, q⟩
theorem signIn_shape {d e : D} {b : Bool} (h : signIn d e = some b) : ∃ c y, d = .str [c] ∧ e = .str y ∧ b = decide (c ∈ y) := by
  unfold signIn at h
  split at h
  · cases h; exact ⟨_, _, rfl, rfl, rfl⟩
  · cases h
theorem op_inDD (hu : X.A.units + 65 < cLine) : OpR X (compareOp .In) (rD2 X.K C (cmpD .isin)) := by
  intro pins s σ H x y v u Q I rx ry h
  obtain ⟨μ, S, d, e, R, ia, ib, g⟩ := h
  obtain ⟨b, e1, q⟩ := boolV R g
  unfold inD at e1
  cases e2 : signIn d e with
  | some r =>
    rw [e2] at e1
    cases e1
    obtain ⟨c, z, rfl, rfl, rfl⟩ := signIn_shape e2
    cases ia; cases ib
    exact op_in_sign pins s σ H _ _ v u Q I rx ry ⟨c, _, rfl, rfl, by simpa using q⟩
  | none =>
    rw [e2] at e1
    dsimp only at e1
    cases e3 : inSeq S d e with
    | some r =>
      rw [e3] at e1
      cases e1
      exact in_seq_ok hu false R ia ib I rx ry e3 q
    | none =>
      rw [e3] at e1
      exact in_dict_ok hu false R ia ib I rx ry e1 q
theorem op_notinDD (hu : X.A.units + 65 < cLine) : OpR X (compareOp .NotIn) (rD2 X.K C (cmpD .notin)) := by
  intro pins s σ H x y v u Q I rx ry h
  obtain ⟨μ, S, d, e, R, ia, ib, g⟩ := h
  obtain ⟨b, e0, q⟩ := boolV R g
  obtain ⟨b', e1, rfl⟩ := Option.map_eq_some_iff.mp e0
  unfold inD at e1
  cases e2 : signIn d e with
  | some r =>
    rw [e2] at e1
    cases e1
    obtain ⟨c, z, rfl, rfl, rfl⟩ := signIn_shape e2
    cases ia; cases ib
    exact op_notIn_sign pins s σ H _ _ v u Q I rx ry ⟨c, _, rfl, rfl, by simpa using q⟩
  | none =>
    rw [e2] at e1
    dsimp only at e1
    cases e3 : inSeq S d e with
    | some r =>
      rw [e3] at e1
      cases e1
      exact in_seq_ok hu true R ia ib I rx ry e3 q
    | none =>
      rw [e3] at e1
      exact in_dict_ok hu true R ia ib I rx ry e1 q

/-! ### subscripts -/
theorem place_ixN (i : Int) (n : Nat) : placeOf i n = ixN n i := rfl
theorem at_some {α : Type} {xs : List α} {i : Int} {k : Nat} {y : α} (h1 : placeOf i xs.length = some k) (h2 : xs[k]? = some y) : atI xs i = some y := by
  unfold atI
  rw [← place_ixN, h1]
  exact h2
theorem at_isL {K : PySem.W.Frag} {μ : Mu} {H : Hp} {ds : List D} {vs : List V} {i : Int} {k : Nat} {d : D} (l : IsL K μ H ds vs) (h1 : placeOf i ds.length = some k) (h2 : ds[k]? = some d) : ∃ v, atI vs i = some v ∧ Is K μ H d v := by
  obtain ⟨v, e, q⟩ := l.get h2
  exact ⟨v, at_some (by rw [l.length]; exact h1) e, q⟩
open PyProof.Rows in
theorem ix_dict (hu : X.A.units + 1 < cLine) : IxR X (fun x y H Q => ∃ a v, x = .ref a ∧ DGet H a y (some v) ∧ Q v H) := by
  intro value slice pins s σ H x y v u Q I rx ry h hs
  obtain ⟨a, w, rfl, g, q⟩ := h
  cases rx
  have hT := dict_typeIs I g
  unfold subscriptTail
  refine wpAny_bind ?_
  rw [getitemInPython_of_ne hT.not_modules]
  refine wpAny_bind (wpAny_specialOf hT PySem.F.slot_dict_getitem.lookup ?_)
  have fin : wpAny (model X.prog X.w) X.A (subscripted slice false (.ref a) u) (fun r s₃ => wpAny (model X.prog X.w) X.A (letTemporaryGo value (.ref a) r >>= fun _ => pure r) (EP X pins σ Q) X.xe s₃) X.xe s := by
    rw [hs]
    exact wpAny_operating (d_getItem hu I g ry fun w' s' I' rw' => wpAny_bind (wpAny_letTemporaryGo (wpAny_pure ⟨w, H, I', rw', q⟩)))
  first
    | exact wpAny_pure (wpAny_bind fin)
    | exact wpAny_bind (wpAny_pure (wpAny_bind fin))
    | exact wpAny_bind fin
theorem ix_dsub (hu : X.A.units + 1 < cLine) : IxR X (rD2 X.K C dsubD) := by
  intro value slice pins s σ H x y v u Q I rx ry h hs
  obtain ⟨μ, S, d, e, R, ia, ib, g⟩ := h
  unfold dsubD at g
  cases e1 : dictOf S d with
  | none => rw [e1] at g; exact g.elim
  | some kd =>
    cases e2 : dkOf e with
    | none => rw [e1, e2] at g; exact g.elim
    | some k =>
      rw [e1, e2] at g
      obtain ⟨ks, ds⟩ := kd
      dsimp only at g
      obtain ⟨a, kvs, rfl, h1, h2, h3⟩ := dict_at R ia e1
      cases dkOf_is ib e2
      have hh := kvs_get (k := k) h2 h3
      cases e3 : kGet ks ds k with
      | none => rw [e3] at g; exact g.elim
      | some w =>
        rw [e3] at g hh
        obtain ⟨z, ez, iz⟩ := hh
        refine ix_dict hu value slice pins s σ H _ _ v u Q I rx ry ⟨a, z, rfl, ?_, g.here R iz⟩ hs
        have := DGet.k (k := keyOf k) h1
        rw [ez] at this
        exact this
theorem ix_D (hu : X.A.units + 1 < cLine) : IxR X (rD2 X.K C subD) := by
  intro value slice pins s σ H x y v u Q I rx ry h hs
  obtain ⟨μ, S, d, e, R, ia, ib, g⟩ := h
  by_cases hi : ∃ i, e = .int i
  case neg =>
    have e0 : subD d e S = dsubD d e S := by
      cases e <;> first | rfl | exact absurd ⟨_, rfl⟩ hi
    rw [e0] at g
    exact ix_dsub hu value slice pins s σ H x y v u Q I rx ry ⟨μ, S, d, e, R, ia, ib, g⟩ hs
  obtain ⟨i, rfl⟩ := hi
  have ib0 := ib
  cases ib
  by_cases hd : ∃ z, d = .str z
  · obtain ⟨z, rfl⟩ := hd
    cases ia
    simp only [subD] at g
    split at g
    · rename_i hz
      cases e1 : placeOf i z.length with
      | none => rw [e1] at g; exact g.elim
      | some k =>
        rw [e1] at g
        dsimp only at g
        cases e2 : z[k]? with
        | none => rw [e2] at g; exact g.elim
        | some c =>
          rw [e2] at g
          exact ix_str value slice pins s σ H _ _ v u Q I rx ry ⟨_, i, c, rfl, rfl, by rw [szl]; simpa [Str.length] using hz, at_some (by simpa using e1) (by simpa using e2), g.here R rfl⟩ hs
    · exact g.elim
  · have e0 : subD d (.int i) S = (match seqOf S d with
      | some ds => match placeOf i ds.length with
        | some k => match ds[k]? with
          | some d => .ok d S
          | none => .bad
        | none => .bad
      | none => dsubD d (.int i) S) := by
      cases d <;> first | rfl | exact absurd ⟨_, rfl⟩ hd
    rw [e0] at g
    cases e1 : seqOf S d with
    | none =>
      rw [e1] at g
      exact ix_dsub hu value slice pins s σ H x _ v u Q I rx ry ⟨μ, S, d, _, R, ia, ib0, g⟩ hs
    | some ds =>
      rw [e1] at g
      dsimp only at g
      cases e2 : placeOf i ds.length with
      | none => rw [e2] at g; exact g.elim
      | some k =>
        rw [e2] at g
        dsimp only at g
        cases e3 : ds[k]? with
        | none => rw [e3] at g; exact g.elim
        | some r =>
          rw [e3] at g
          obtain ⟨a, vs, rfl, hq, l⟩ := R.seq ia e1
          obtain ⟨w, e4, iw⟩ := at_isL l e2 e3
          refine ix_seq value slice pins s σ H _ _ v u Q I rx ry ?_ hs
          rcases hq with hq | hq
          · exact .inl ⟨a, vs, i, w, rfl, rfl, hq, e4, g.here R iw⟩
          · exact .inr (.inl ⟨a, vs, i, w, rfl, rfl, hq, e4, g.here R iw⟩)

/-! ### slices -/
theorem cutV_isL {K : PySem.W.Frag} {μ : Mu} {H : Hp} {ds : List D} {vs : List V} {lo hi : Option Int} (l : IsL K μ H ds vs) : IsL K μ H (cut ds lo hi) (cutV vs lo hi) := by
  have e : ∀ (n d : Nat) (o : Option Int), cutAt n d o = HT.sIx n d o := fun n d o => by cases o <;> rfl
  unfold cut cutV
  rw [l.length, e, e]
  exact (l.drop _).take _
def rSlD (K : PySem.W.Frag) (C : Nat → Addr) : V → Option Int → Option Int → Hp → VK → Prop := fun x lo hi H Q => ∃ μ S d, RepS K C μ S H ∧ Is K μ H d x ∧ GoodV K C μ H Q (slcD d lo hi S)
theorem sl_D : L2.SlR X (rSlD X.K C) := by
  intro pins s σ H x v vl vu lo hi sl Q I rx hs pl pu h
  obtain ⟨μ, S, d, R, ia, g⟩ := h
  unfold slcD at g
  have hl : ∀ d, items S d ≠ none → Is X.K μ H d x → GoodV X.K C μ H Q (match items S d with
      | some ds => .ok (.lst (cut ds lo hi)) S
      | none => .bad) → ∃ T id, typeLookup (.type T) "__getitem__" = pure (some (.builtin id)) ∧ s.TypeIs v T ∧ wpAny (model X.prog X.w) X.A (getItem v (.ref sl)) (EP X pins σ Q) X.xe s := by
    intro d hd ia g
    cases e1 : items S d with
    | none => exact absurd e1 hd
    | some ds =>
      rw [e1] at g
      obtain ⟨a, vs, rfl, hq, l⟩ := R.items ia e1
      exact kno_sl sl_list pins s σ H _ v vl vu lo hi sl Q I rx hs pl pu ⟨a, vs, rfl, .inl (.inl hq), fun p np => g.newL R (cutV_isL l) np⟩
  have hl' : ∀ d, Is X.K μ H d x → GoodV X.K C μ H Q (match items S d with
      | some ds => .ok (.lst (cut ds lo hi)) S
      | none => .bad) → ∃ T id, typeLookup (.type T) "__getitem__" = pure (some (.builtin id)) ∧ s.TypeIs v T ∧ wpAny (model X.prog X.w) X.A (getItem v (.ref sl)) (EP X pins σ Q) X.xe s := by
    intro d ia g
    refine hl d (fun e => ?_) ia g
    rw [e] at g
    exact g.elim
  cases d with
  | str z =>
    cases ia
    dsimp only at g
    split at g
    · rename_i hz
      refine sl_str pins s σ H _ v vl vu lo hi sl Q I rx hs pl pu ⟨_, rfl, by rw [szl]; simpa [Str.length] using hz, g.here R ?_⟩
      show V.str _ = V.str _
      have e : ∀ (n d : Nat) (o : Option Int), cutAt n d o = HT.sIx n d o := fun n d o => by cases o <;> rfl
      unfold cutS cut
      rw [e, e]
      simp [Str.length]
    · exact g.elim
  | tup ds =>
    obtain ⟨a, vs, rfl, hq, l⟩ := ia
    refine kno_sl sl_tupA pins s σ H _ v vl vu lo hi sl Q I rx hs pl pu ⟨a, vs, rfl, hq, fun hw _ => g.here R ⟨a, vs, rfl, hq, ?_⟩, fun _ p np => g.newT R (cutV_isL l) np⟩
    have z := cutV_isL (lo := lo) (hi := hi) l
    have e : cutV vs lo hi = vs := by
      unfold cutV
      rw [hw.1, hw.2]
      simp
    rw [e] at z
    exact z
  | lst ds => exact hl' _ ia g
  | ref k => exact hl' _ ia g
  | _ => exact g.elim
end
end SL
set_option Elab.async false
set_option linter.all false
set_option maxRecDepth 100000
set_option maxHeartbeats 1000000
/-! A4: built-in functions and methods. -/
namespace SL
open PySem PySem.Spec L2

section
variable {K : PySem.W.Frag} {C : Nat → Addr} {μ : Mu} {H : Hp} {S : Sto}
theorem isL_one {d : D} {xs : List V} (i : IsL K μ H [d] xs) : ∃ v, xs = [v] ∧ Is K μ H d v := by
  obtain ⟨v, r, rfl, i1, i2⟩ := i
  cases (show r = [] from i2)
  exact ⟨v, rfl, i1⟩
theorem isL_two {d e : D} {xs : List V} (i : IsL K μ H [d, e] xs) : ∃ v u, xs = [v, u] ∧ Is K μ H d v ∧ Is K μ H e u := by
  obtain ⟨v, r, rfl, i1, i2⟩ := i
  obtain ⟨u, rfl, i3⟩ := isL_one i2
  exact ⟨v, u, rfl, i1, i3⟩
theorem bools_isL : ∀ {ds : List D} {bs : List Bool} {vs : List V}, bools ds = some bs → IsL K μ H ds vs → vs = bs.map V.bl
  | [], bs, vs, e, i => by
    cases e
    exact i
  | d :: ds, bs, vs, e, i => by
    obtain ⟨v, r, rfl, i1, i2⟩ := i
    cases d with
    | bl b =>
      unfold bools at e
      cases e2 : bools ds with
      | none => rw [e2] at e; cases e
      | some cs =>
        rw [e2] at e
        cases e
        cases i1
        rw [bools_isL e2 i2]
        rfl
    | _ => cases e
theorem texts_isL : ∀ {ds : List D} {ts : List (List Nat)} {vs : List V}, texts ds = some ts → IsL K μ H ds vs → vs = (ts.map fun t => (⟨t.toArray⟩ : Str)).map V.str
  | [], bs, vs, e, i => by
    cases e
    exact i
  | d :: ds, bs, vs, e, i => by
    obtain ⟨v, r, rfl, i1, i2⟩ := i
    cases d with
    | str b =>
      unfold texts at e
      cases e2 : texts ds with
      | none => rw [e2] at e; cases e
      | some cs =>
        rw [e2] at e
        cases e
        cases i1
        rw [texts_isL e2 i2]
        rfl
    | _ => cases e
end
theorem joined_txt (sep : List Nat) : ∀ ts : List (List Nat), Str.join ⟨sep.toArray⟩ (ts.map fun t => (⟨t.toArray⟩ : Str)) = ⟨(joined sep ts).toArray⟩
  | [] => rfl
  | [x] => rfl
  | x :: y :: r => by
    have ih := joined_txt sep (y :: r)
    show (⟨x.toArray⟩ : Str) ++ ⟨sep.toArray⟩ ++ Str.join ⟨sep.toArray⟩ ((y :: r).map fun t => (⟨t.toArray⟩ : Str)) = _
    rw [ih]
    show Str.mk (x.toArray ++ sep.toArray ++ (joined sep (y :: r)).toArray) = Str.mk (x ++ (sep ++ joined sep (y :: r))).toArray
    simp

section
variable {X : Cx} {C : Nat → Addr}
theorem bl_len : CallR X (.builtin "len") (rDL X.K C (bltD .len)) := by
  intro pins s σ H xs us Q I r h
  obtain ⟨μ, S, ds, R, i, g⟩ := h
  match ds, i, g with
  | [d], i, g =>
    obtain ⟨v, rfl, j⟩ := isL_one i
    by_cases hd : ∃ z, d = .str z
    · obtain ⟨z, rfl⟩ := hd
      cases j
      simp only [bltD] at g
      split at g
      · rename_i hz
        refine call_len_str pins s σ H _ us Q I r ⟨_, rfl, by rw [szl]; simpa [Str.length] using hz, ?_⟩
        have e : ((⟨z.toArray⟩ : Str).length : Int) = (z.length : Int) := by simp [Str.length]
        rw [e]
        exact g.here R rfl
      · exact g.elim
    · have e0 : bltD .len [d] S = (match seqOf S d with
        | some xs => .ok (.int xs.length) S
        | none => .bad) := by
        cases d <;> first | rfl | exact absurd ⟨_, rfl⟩ hd
      rw [e0] at g
      cases e1 : seqOf S d with
      | none => rw [e1] at g; exact g.elim
      | some xs =>
        rw [e1] at g
        obtain ⟨a, vs, rfl, hq, l⟩ := R.seq j e1
        refine call_len_seq pins s σ H _ us Q I r ⟨a, vs, rfl, hq, ?_⟩
        rw [l.length]
        exact g.here R rfl
  | [], i, g => exact g.elim
  | a :: b :: c, i, g => cases a <;> exact g.elim
theorem bl_int : CallR X (.type "int") (rDL X.K C (bltD .int)) := by
  intro pins s σ H xs us Q I r h
  obtain ⟨μ, S, ds, R, i, g⟩ := h
  match ds, i, g with
  | [.int n], i, g =>
    obtain ⟨v, rfl, j⟩ := isL_one i
    cases j
    exact call_int1 pins s σ H _ us Q I r (.inl ⟨n, rfl, g.here R rfl⟩)
  | [.bl n], i, g =>
    obtain ⟨v, rfl, j⟩ := isL_one i
    cases j
    exact call_int1 pins s σ H _ us Q I r (.inr ⟨n, rfl, g.here R rfl⟩)
  | [], i, g => exact g.elim
  | [.non], i, g => exact g.elim
  | [.str _], i, g => exact g.elim
  | [.tup _], i, g => exact g.elim
  | [.lst _], i, g => exact g.elim
  | [.scr _], i, g => exact g.elim
  | [.ref _], i, g => exact g.elim
  | a :: b :: c, i, g => cases a <;> exact g.elim
theorem bl_all (hc : X.calm = true) : CallR X (.builtin "all") (rDL X.K C (bltD .all)) := by
  intro pins s σ H xs us Q I r h
  obtain ⟨μ, S, ds, R, i, g⟩ := h
  match ds, i, g with
  | [d], i, g =>
    obtain ⟨v, rfl, j⟩ := isL_one i
    simp only [bltD] at g
    cases e1 : items S d with
    | none => rw [e1] at g; exact g.elim
    | some xs =>
      rw [e1] at g
      dsimp only at g
      cases e2 : bools xs with
      | none => rw [e2] at g; exact g.elim
      | some bs =>
        rw [e2] at g
        obtain ⟨a, vs, rfl, hq, l⟩ := R.items j e1
        cases bools_isL e2 l
        exact cr_all hc pins s σ H _ us Q I r ⟨a, bs, rfl, .inl (.inl hq), g.here R rfl⟩
  | [], i, g => exact g.elim
  | a :: b :: c, i, g => exact g.elim
theorem bl_any (hc : X.calm = true) : CallR X (.builtin "any") (rDL X.K C (bltD .any)) := by
  intro pins s σ H xs us Q I r h
  obtain ⟨μ, S, ds, R, i, g⟩ := h
  match ds, i, g with
  | [d], i, g =>
    obtain ⟨v, rfl, j⟩ := isL_one i
    simp only [bltD] at g
    cases e1 : items S d with
    | none => rw [e1] at g; exact g.elim
    | some xs =>
      rw [e1] at g
      dsimp only at g
      cases e2 : bools xs with
      | none => rw [e2] at g; exact g.elim
      | some bs =>
        rw [e2] at g
        obtain ⟨a, vs, rfl, hq, l⟩ := R.items j e1
        cases bools_isL e2 l
        exact cr_any hc pins s σ H _ us Q I r ⟨a, bs, rfl, .inl (.inl hq), g.here R rfl⟩
  | [], i, g => exact g.elim
  | a :: b :: c, i, g => exact g.elim
theorem two_ints {b : Blt} (hb : b = .max ∨ b = .min) {ds : List D} {S : Sto} {K : PySem.W.Frag} {μ : Mu} {H : Hp} {Q : VK} (g : GoodV K C μ H Q (bltD b ds S)) : ∃ i j, ds = [.int i, .int j] := by
  match ds, g with
  | [.int i, .int j], g => exact ⟨i, j, rfl⟩
  | [], g => rcases hb with rfl | rfl <;> exact g.elim
  | [a], g => rcases hb with rfl | rfl <;> cases a <;> exact g.elim
  | a :: b :: c :: r, g => rcases hb with rfl | rfl <;> cases a <;> cases b <;> exact g.elim
  | [.non, y], g => rcases hb with rfl | rfl <;> exact g.elim
  | [.bl _, y], g => rcases hb with rfl | rfl <;> exact g.elim
  | [.str _, y], g => rcases hb with rfl | rfl <;> exact g.elim
  | [.tup _, y], g => rcases hb with rfl | rfl <;> exact g.elim
  | [.lst _, y], g => rcases hb with rfl | rfl <;> exact g.elim
  | [.scr _, y], g => rcases hb with rfl | rfl <;> exact g.elim
  | [.ref _, y], g => rcases hb with rfl | rfl <;> exact g.elim
  | [.dct _ _, y], g => rcases hb with rfl | rfl <;> exact g.elim
  | [.int _, .non], g => rcases hb with rfl | rfl <;> exact g.elim
  | [.int _, .bl _], g => rcases hb with rfl | rfl <;> exact g.elim
  | [.int _, .str _], g => rcases hb with rfl | rfl <;> exact g.elim
  | [.int _, .tup _], g => rcases hb with rfl | rfl <;> exact g.elim
  | [.int _, .lst _], g => rcases hb with rfl | rfl <;> exact g.elim
  | [.int _, .scr _], g => rcases hb with rfl | rfl <;> exact g.elim
  | [.int _, .ref _], g => rcases hb with rfl | rfl <;> exact g.elim
  | [.int _, .dct _ _], g => rcases hb with rfl | rfl <;> exact g.elim
theorem bl_max (hc : X.calm = true) : CallR X (.builtin "max") (rDL X.K C (bltD .max)) := by
  intro pins s σ H xs us Q I r h
  obtain ⟨μ, S, ds, R, i, g⟩ := h
  obtain ⟨m, n, rfl⟩ := two_ints (.inl rfl) g
  obtain ⟨v, u, rfl, i1, i2⟩ := isL_two i
  cases i1; cases i2
  exact call_max2 hc pins s σ H _ us Q I r ⟨m, n, rfl, g.here R rfl⟩
theorem bl_min (hc : X.calm = true) : CallR X (.builtin "min") (rDL X.K C (bltD .min)) := by
  intro pins s σ H xs us Q I r h
  obtain ⟨μ, S, ds, R, i, g⟩ := h
  obtain ⟨m, n, rfl⟩ := two_ints (.inr rfl) g
  obtain ⟨v, u, rfl, i1, i2⟩ := isL_two i
  cases i1; cases i2
  exact call_min2 hc pins s σ H _ us Q I r ⟨m, n, rfl, g.here R rfl⟩
theorem bl_list : CallR X (.type "list") (rDL X.K C (bltD .list)) := by
  intro pins s σ H xs us Q I r h
  obtain ⟨μ, S, ds, R, i, g⟩ := h
  match ds, i, g with
  | [d], i, g =>
    obtain ⟨v, rfl, j⟩ := isL_one i
    simp only [bltD] at g
    cases e1 : seqOf S d with
    | none => rw [e1] at g; exact g.elim
    | some xs =>
      rw [e1] at g
      obtain ⟨a, vs, rfl, hq, l⟩ := R.seq j e1
      exact kno_call call_list_of pins s σ H _ us Q I r ⟨a, vs, rfl, hq, fun p np => g.newL R l np⟩
  | [], i, g => exact g.elim
  | a :: b :: c, i, g => exact g.elim
theorem bl_tuple : CallR X (.type "tuple") (rDL X.K C (bltD .tuple)) := by
  intro pins s σ H xs us Q I r h
  obtain ⟨μ, S, ds, R, i, g⟩ := h
  match ds, i, g with
  | [d], i, g =>
    obtain ⟨v, rfl, j⟩ := isL_one i
    simp only [bltD] at g
    cases e1 : seqOf S d with
    | none => rw [e1] at g; exact g.elim
    | some xs =>
      rw [e1] at g
      obtain ⟨a, vs, rfl, hq, l⟩ := R.seq j e1
      refine kno_call call_tuple_of pins s σ H _ us Q I r ⟨a, vs, rfl, ?_⟩
      rcases hq with hq | hq
      · exact .inl ⟨hq, fun p np => g.newT R l np⟩
      · exact .inr ⟨hq, fun _ => g.here R ⟨a, vs, rfl, hq, l⟩⟩
  | [], i, g => exact g.elim
  | a :: b :: c, i, g => exact g.elim
/-- repr of data -/
theorem repr_ok {Q : Value → Shared → Prop} {s : Shared} {v : Value} {p : PyData} {as : List Addr} (hg : X.A.guards = some []) (hu : X.A.units + 66 < cLine) (r : Reads s.heap v p as) (hs : p.showable = true) (hf : fit p = true) (hz : p.shown.length ≤ sz)
    (q : ∀ h' u tk, (∀ b o, s.heap.get? b = some o → h'.get? b = some o) → Q (.str p.shown u) { s with heap := h', toks := tk }) : wpAny (model X.prog X.w) X.A (call (.builtin "repr") [v]) Q X.xe s := by
  unfold fit at hf
  rw [Bool.and_eq_true] at hf
  have hd : p.depth ≤ 64 := of_decide_eq_true hf.2
  have hn : p.hasDict = false := PyData.hasDict_of_canLay p hf.1
  rw [← szl] at hz
  cases r with
  | none =>
    refine P.repr_of_none ?_
    have z := q s.heap s.toks (s.toks + 1) (fun _ _ e => e)
    simp only [PyData.shown] at z
    exact z
  | bool b =>
    refine P.repr_of_bool ?_
    have z := q s.heap s.toks (s.toks + 1) (fun _ _ e => e)
    simp only [PyData.shown] at z
    cases b <;> exact z
  | int i t =>
    refine P.repr_of_int (by simpa [PyData.showable] using hs) ?_
    have z := q s.heap s.toks (s.toks + 1) (fun _ _ e => e)
    simp only [PyData.shown] at z
    exact z
  | str x t =>
    have z := q s.heap s.toks (s.toks + 1) (fun _ _ e => e)
    simp only [PyData.shown] at z hz
    exact P.repr_of_str z hz
  | list h1 h2 h3 h4 => exact repr_of_reads' (Reads.list h1 h2 h3 h4) hs (PyData.noDict_hsm hn) hg (by omega) (fun _ _ e => e) q hz
  | tuple h1 h2 h3 h4 => exact repr_of_reads' (Reads.tuple h1 h2 h3 h4) hs (PyData.noDict_hsm hn) hg (by omega) (fun _ _ e => e) q hz
  | dict h1 => simp [PyData.canLay0] at hf
theorem bl_repr (hg : X.A.guards = some []) (hu : X.A.units + 66 < cLine) : CallR X (.builtin "repr") (rDL X.K C (bltD .repr)) := by
  intro pins s σ H xs us Q I r h
  obtain ⟨μ, S, ds, R, i, g⟩ := h
  match ds, i, g with
  | [d], i, g =>
    obtain ⟨v, rfl, j⟩ := isL_one i
    simp only [bltD] at g
    cases e1 : look S d with
    | none => rw [e1] at g; exact g.elim
    | some p =>
      rw [e1] at g
      dsimp only at g
      split at g
      · rename_i hc
        obtain ⟨u, rfl, ru⟩ := vals1 r
        obtain ⟨dp, sp⟩ := look_dp R j e1
        obtain ⟨as, rd⟩ := Dp.reads I p v u dp ru
        refine repr_ok hg hu rd hc.1 sp hc.2 fun h' t tk hk => ⟨.str p.shown, H, I.kept hk, ⟨t, rfl⟩, ?_⟩
        refine g.here R ?_
        show V.str _ = V.str _
        simp
      · exact g.elim
  | [], i, g => exact g.elim
  | a :: b :: c, i, g => exact g.elim

/-- str of data -/
theorem str_ok {Q : Value → Shared → Prop} {s : Shared} {v : Value} {p : PyData} {as : List Addr} (hg : X.A.guards = some []) (hu : X.A.units + 70 < cLine) (r : Reads s.heap v p as) (hs : p.showable = true) (hf : fit p = true) (hz : p.shown.length ≤ sz) (hns : ∀ x, p ≠ .str x)
    (q : ∀ h' u tk, (∀ b o, s.heap.get? b = some o → h'.get? b = some o) → Q (.str p.shown u) { s with heap := h', toks := tk }) : wpAny (model X.prog X.w) X.A (call (.type "str") [v]) Q X.xe s := by
  unfold fit at hf
  rw [Bool.and_eq_true] at hf
  have hd : p.depth ≤ 64 := of_decide_eq_true hf.2
  have hn : p.hasDict = false := PyData.hasDict_of_canLay p hf.1
  rw [← szl] at hz
  cases r with
  | none =>
    refine P.str_of_none ?_
    have z := q s.heap s.toks (s.toks + 1) (fun _ _ e => e)
    simp only [PyData.shown] at z
    exact z
  | bool b =>
    refine P.str_of_bool ?_
    have z := q s.heap s.toks (s.toks + 1) (fun _ _ e => e)
    simp only [PyData.shown] at z
    cases b <;> exact z
  | int i t =>
    refine P.str_of_int (by simpa [PyData.showable] using hs) ?_
    have z := q s.heap s.toks (s.toks + 1) (fun _ _ e => e)
    simp only [PyData.shown] at z
    exact z
  | str x t => exact absurd rfl (hns x)
  | list h1 h2 h3 h4 => exact str_of_reads (Reads.list h1 h2 h3 h4) hs (PyData.noDict_hsm hn) hg (by omega) (fun _ _ e => e) q hz
  | tuple h1 h2 h3 h4 => exact str_of_reads (Reads.tuple h1 h2 h3 h4) hs (PyData.noDict_hsm hn) hg (by omega) (fun _ _ e => e) q hz
  | dict h1 => simp [PyData.canLay0] at hf
theorem look_str {S : Sto} {d : D} {x : Str} (h : look S d = some (.str x)) : ∃ y, d = .str y := by
  unfold look res at h
  cases d with
  | str y => exact ⟨y, rfl⟩
  | non => simp at h
  | bl b => simp at h
  | int b => simp at h
  | tup ds => cases e : resL (res S 69) ds <;> simp [e] at h <;> exact absurd h.2 (by simp)
  | lst ds => cases e : resL (res S 69) ds <;> simp [e] at h <;> exact absurd h.2 (by simp)
  | scr ds => simp at h
  | dct ks ds => simp at h
  | ref k =>
    cases e0 : S[k]? with
    | none => simp [e0] at h
    | some o =>
      cases o with
      | lst ds => cases e : resL (res S 69) ds <;> simp [e0, e] at h <;> exact absurd h.2 (by simp)
      | _ => simp [e0] at h
theorem bl_str (hg : X.A.guards = some []) (hu : X.A.units + 70 < cLine) : CallR X (.type "str") (rDL X.K C (bltD .str)) := by
  intro pins s σ H xs us Q I r h
  obtain ⟨μ, S, ds, R, i, g⟩ := h
  match ds, i, g with
  | [d], i, g =>
    obtain ⟨v, rfl, j⟩ := isL_one i
    by_cases hd : ∃ y, d = .str y
    · obtain ⟨y, rfl⟩ := hd
      cases j
      obtain ⟨u, rfl, t, rfl⟩ := vals1 r
      exact P.str_of_str ⟨.str _, H, I, ⟨t, rfl⟩, g.here R rfl⟩
    have e0 : bltD .str [d] S = match look S d with
      | some p => if p.showable = true ∧ p.shown.length ≤ sz then .ok (.str p.shown.cps.toList) S else .bad
      | none => .bad := by
      cases d with
      | str y => exact absurd ⟨y, rfl⟩ hd
      | _ => rfl
    rw [e0] at g
    cases e1 : look S d with
    | none => rw [e1] at g; exact g.elim
    | some p =>
      rw [e1] at g
      dsimp only at g
      split at g
      · rename_i hc
        obtain ⟨u, rfl, ru⟩ := vals1 r
        obtain ⟨dp, sp⟩ := look_dp R j e1
        obtain ⟨as, rd⟩ := Dp.reads I p v u dp ru
        refine str_ok hg hu rd hc.1 sp hc.2 (fun x e => by subst e; exact hd (look_str e1)) fun h' t tk hk => ⟨.str p.shown, H, I.kept hk, ⟨t, rfl⟩, ?_⟩
        refine g.here R ?_
        show V.str _ = V.str _
        simp
      · exact g.elim
  | [], i, g => exact g.elim
  | a :: b :: c, i, g => cases a <;> exact g.elim

/-! ### methods -/
theorem mt_joinD : MtR X "str.join" (rDM X.K C (mthD .join)) := by
  intro pins s σ H x xs v us Q I rx rs h
  obtain ⟨μ, S, d, ds, R, i, l, g⟩ := h
  cases d with
  | str sep =>
    match ds, l, g with
    | [e], l, g =>
      obtain ⟨w, rfl, j⟩ := isL_one l
      cases i
      simp only [mthD] at g
      cases e1 : seqOf S e with
      | none => rw [e1] at g; exact g.elim
      | some xs =>
        rw [e1] at g
        dsimp only at g
        cases e2 : texts xs with
        | none => rw [e2] at g; exact g.elim
        | some ts =>
          rw [e2] at g
          dsimp only at g
          split at g
          · rename_i hz
            obtain ⟨a, vs, rfl, hq, l⟩ := R.seq j e1
            cases texts_isL e2 l
            refine mt_join pins s σ H _ _ v us Q I rx rs ⟨_, a, ts.map fun t => (⟨t.toArray⟩ : Str), rfl, rfl, hq, ?_, ?_⟩
            · have e3 : (ts.map fun t => (⟨t.toArray⟩ : Str)).map (·.length) = ts.map List.length := by
                rw [List.map_map]
                refine List.map_congr_left fun t _ => ?_
                simp [Str.length]
              rw [e3, List.length_map]
              simpa [Str.length] using hz
            · have z : Txt.join ⟨sep.toArray⟩ (ts.map fun t => (⟨t.toArray⟩ : Str)) = ⟨(joined sep ts).toArray⟩ := (beq_iff_eq.mp (PyProof.Rows.join_plain_closes _ _)).trans (joined_txt sep ts)
              rw [z]
              exact g.here R rfl
          · exact g.elim
    | [], l, g => exact g.elim
    | a :: b :: c, l, g => exact g.elim
  | _ => exact g.elim
theorem mt_appendD : MtR X "list.append" (rDM X.K C (mthD .append)) := by
  intro pins s σ H x xs v us Q I rx rs h
  obtain ⟨μ, S, d, ds, R, i, l, g⟩ := h
  cases d with
  | ref k =>
    match ds, l, g with
    | [e], l, g =>
      obtain ⟨w, rfl, j⟩ := isL_one l
      simp only [mthD] at g
      cases e1 : S[k]? with
      | none => simp only [e1] at g; exact g.elim
      | some o =>
        simp only [e1] at g
        cases o with
        | lst ys =>
          dsimp only at g
          split at g
          · rename_i hz
            obtain ⟨a, rfl, m, vs, hv, lv⟩ := R.at i e1
            have hm : a ∈ μ.l := List.mem_of_getElem? m
            refine kno_mt (show MtR X "list.append" rAppend from mt_append) pins s σ H _ _ v us Q I rx rs ⟨a, vs, w, rfl, rfl, hv, by rw [lv.length, szl]; exact hz, fun z => ?_⟩
            refine g _ _ _ (ext_write hm) (R.write m z ⟨vs ++ [w], upd_same, ?_⟩) rfl
            exact (lv.append (show IsL X.K μ H [e] [w] from ⟨w, [], rfl, j, rfl⟩)).mono R.toRep0 (ext_write hm)
          · exact g.elim
        | ins _ _ => exact g.elim
        | exc _ _ => exact g.elim
        | dct _ _ => exact g.elim
    | [], l, g => exact g.elim
    | a :: b :: c, l, g => exact g.elim
  | _ => exact g.elim
theorem look_list {K : PySem.W.Frag} {C : Nat → Addr} {μ : Mu} {H : Hp} {S : Sto} {d : D} {v : V} {ys : List PyData} (R : RepS K C μ S H) (i : Is K μ H d v) (e : look S d = some (.list ys)) : ∃ a vs, v = .ref a ∧ SqL K H a vs ∧ DpAll K H vs ys := by
  obtain ⟨h, _⟩ := look_dp R i e
  cases h with
  | lst q l => exact ⟨_, _, rfl, q, l⟩
theorem mt_countD (hu : X.A.units + 65 < cLine) : MtR X "list.count" (rDM X.K C (mthD .count)) := by
  intro pins s σ H x xs v us Q I rx rs h
  obtain ⟨μ, S, d, ds, R, i, l, g⟩ := h
  match ds, l, g with
  | [e], l, g =>
    obtain ⟨w, rfl, j⟩ := isL_one l
    simp only [mthD] at g
    cases e1 : look S d with
    | none => rw [e1] at g; exact g.elim
    | some p =>
      cases e2 : look S e with
      | none => rw [e1, e2] at g; cases p <;> exact g.elim
      | some z =>
        rw [e1, e2] at g
        cases p with
        | list ys =>
          dsimp only at g
          obtain ⟨a, vs, rfl, hq, dl⟩ := look_list R i e1
          obtain ⟨_, s1⟩ := look_dp R i e1
          obtain ⟨d2, s2⟩ := look_dp R j e2
          cases rx
          cases rs with
          | cons ry rt =>
            cases rt
            obtain ⟨its, rv, pl, hz⟩ := I.list hq
            obtain ⟨as, h4⟩ := Dp.readsAll I ys _ its dl rv
            obtain ⟨bs, r1⟩ := Dp.reads I z w _ d2 ry
            have hxs : PyData.canLayAll0 ys = true := SeqAt.canLay_of_shaped s1
            exact SeqAt.count_list_data (vs := its.toArray) pl.isList (by simpa using h4) r1 (PyData.plainAll_of_canLay0 _ hxs) (PyData.plain_of_canLay0 _ (SeqAt.canLay_of_shaped s2)) (PyProof.Rows.room_in_shaped s2 hu) ⟨.int _, H, I.tok _, ⟨_, rfl⟩, g.here R rfl⟩
        | _ => exact g.elim
  | [], l, g => exact g.elim
  | a :: b :: c, l, g => exact g.elim
theorem mt_indexDD (hu : X.A.units + 65 < cLine) : MtR X "list.index" (rDM X.K C (mthD .index)) := by
  intro pins s σ H x xs v us Q I rx rs h
  obtain ⟨μ, S, d, ds, R, i, l, g⟩ := h
  match ds, l, g with
  | [e], l, g =>
    obtain ⟨w, rfl, j⟩ := isL_one l
    simp only [mthD] at g
    cases e1 : look S d with
    | none => rw [e1] at g; exact g.elim
    | some p =>
      cases e2 : look S e with
      | none => rw [e1, e2] at g; cases p <;> exact g.elim
      | some z =>
        rw [e1, e2] at g
        cases p with
        | list ys =>
          dsimp only at g
          cases e3 : ys.findIdx? (fun y => PyData.eqv y z) with
          | none => rw [e3] at g; exact g.elim
          | some k =>
            rw [e3] at g
            obtain ⟨a, vs, rfl, hq, dl⟩ := look_list R i e1
            obtain ⟨d1, s1⟩ := look_dp R i e1
            obtain ⟨d2, s2⟩ := look_dp R j e2
            obtain ⟨h1, h2, h3⟩ := List.findIdx?_eq_some_iff_getElem.mp e3
            refine mt_indexD hu pins s σ H _ _ v us Q I rx rs ⟨a, w, z, ys, k, ys[k], rfl, rfl, d1, d2, s1, s2, List.getElem?_eq_getElem h1, h2, fun m z' hm hz' => ?_, g.here R rfl⟩
            obtain ⟨q1, q2⟩ := List.getElem?_eq_some_iff.mp hz'
            rw [← q2]
            simpa using h3 m hm
        | _ => exact g.elim
  | [], l, g => exact g.elim
  | a :: b :: c, l, g => exact g.elim
theorem mt_findD : MtR X "str.find" (rDM X.K C (mthD .find)) := by
  intro pins s σ H x xs v us Q I rx rs h
  obtain ⟨μ, S, d, ds, R, i, l, g⟩ := h
  cases d with
  | str y =>
    match ds, l, g with
    | [.str z], l, g =>
      obtain ⟨w, rfl, j⟩ := isL_one l
      cases i
      cases j
      exact mt_find pins s σ H _ _ v us Q I rx rs ⟨_, _, rfl, rfl, g.here R rfl⟩
    | [], l, g => exact g.elim
    | [.non], l, g => exact g.elim
    | [.bl _], l, g => exact g.elim
    | [.int _], l, g => exact g.elim
    | [.tup _], l, g => exact g.elim
    | [.lst _], l, g => exact g.elim
    | [.scr _], l, g => exact g.elim
    | [.ref _], l, g => exact g.elim
    | [.dct _ _], l, g => exact g.elim
    | a :: b :: c, l, g => cases a <;> exact g.elim
  | _ => exact g.elim
theorem mt_partD : MtR X "str.partition" (rDM X.K C (mthD .partition)) := by
  intro pins s σ H x xs v us Q I rx rs h
  obtain ⟨μ, S, d, ds, R, i, l, g⟩ := h
  cases d with
  | str y =>
    match ds, l, g with
    | [.str z], l, g =>
      obtain ⟨w, rfl, j⟩ := isL_one l
      cases i
      cases j
      simp only [mthD] at g
      split at g
      · rename_i hz
        refine kno_mt mt_partition pins s σ H _ _ v us Q I rx rs ⟨_, _, rfl, rfl, ?_, by rw [szl]; simpa [Str.length] using hz.2, fun p np => g.newT R ?_ np⟩
        · have := hz.1
          cases z with
          | nil => exact absurd rfl this
          | cons c r => rfl
        · exact ⟨_, _, rfl, rfl, _, _, rfl, rfl, _, _, rfl, rfl, rfl⟩
      · exact g.elim
    | [], l, g => exact g.elim
    | [.non], l, g => exact g.elim
    | [.bl _], l, g => exact g.elim
    | [.int _], l, g => exact g.elim
    | [.tup _], l, g => exact g.elim
    | [.lst _], l, g => exact g.elim
    | [.scr _], l, g => exact g.elim
    | [.ref _], l, g => exact g.elim
    | [.dct _ _], l, g => exact g.elim
    | a :: b :: c, l, g => cases a <;> exact g.elim
  | _ => exact g.elim
theorem strs_isL {K : PySem.W.Frag} {μ : Mu} {H : Hp} : ∀ ys : List Str, IsL K μ H (ys.map fun z => D.str z.cps.toList) (ys.map V.str)
  | [] => rfl
  | y :: ys => ⟨_, _, rfl, rfl, strs_isL ys⟩
theorem mt_splitD : MtR X "str.split" (rDM X.K C (mthD .split)) := by
  intro pins s σ H x xs v us Q I rx rs h
  obtain ⟨μ, S, d, ds, R, i, l, g⟩ := h
  cases d with
  | str y =>
    match ds, l, g with
    | [.str z], l, g =>
      obtain ⟨w, rfl, j⟩ := isL_one l
      cases i
      cases j
      simp only [mthD] at g
      split at g
      · rename_i hz
        refine kno_mt mt_split pins s σ H _ _ v us Q I rx rs ⟨_, _, rfl, rfl, ?_, by rw [szl]; simpa [Str.length] using hz.2, fun p np => g.newL R (strs_isL _) np⟩
        have := hz.1
        cases z with
        | nil => exact absurd rfl this
        | cons c r => rfl
      · exact g.elim
    | [], l, g => exact g.elim
    | [.non], l, g => exact g.elim
    | [.bl _], l, g => exact g.elim
    | [.int _], l, g => exact g.elim
    | [.tup _], l, g => exact g.elim
    | [.lst _], l, g => exact g.elim
    | [.scr _], l, g => exact g.elim
    | [.ref _], l, g => exact g.elim
    | [.dct _ _], l, g => exact g.elim
    | a :: b :: c, l, g => cases a <;> exact g.elim
  | _ => exact g.elim
end
end SL
set_option Elab.async false
set_option linter.all false
set_option maxRecDepth 100000
set_option maxHeartbeats 1000000
/-! A5: the rules of expressions, lifted. -/
namespace SL
open PySem PySem.Spec L2

/-! ### looks at the text -/
def notStar : Expr → Bool
  | .Starred _ _ => false
  | _ => true
def notSet : Expr → Bool
  | .Set _ _ _ => false
  | _ => true
def notSlice : Expr → Bool
  | .Slice _ _ _ _ => false
  | _ => true
def plainBase : Expr → Bool
  | .Call _ [] [] _ => false
  | _ => true
def plainTest : Expr → Bool
  | .UnaryOp _ _ _ => false
  | .BoolOp _ _ _ => false
  | .IfExp _ _ _ _ => false
  | .Compare _ _ _ _ => false
  | _ => true
def notComp : Expr → Bool
  | .ListComp _ _ _ _ => false
  | .SetComp _ _ _ _ => false
  | .DictComp _ _ _ _ _ => false
  | _ => true
theorem star_cons {e : Expr} {es : List Expr} {env : Env} (h : notStar e = true) : starEach (e :: es) env = (false, eval e env) :: starEach es env := by
  cases e <;> first | rfl | cases h
def noStars (es : List Expr) : Bool := es.all notStar
theorem star_any {pos : Pos} {env : Env} : ∀ {es : List Expr}, noStars es = true → (backTo pos (starEach es env)).any (·.1) = false
  | [], _ => rfl
  | e :: es, h => by
    unfold noStars at h
    rw [List.all_cons, Bool.and_eq_true] at h
    rw [star_cons h.1]
    show (false || (backTo pos (starEach es env)).any (·.1)) = false
    rw [star_any h.2] <;> rfl
theorem star_all {pos : Pos} {env : Env} : ∀ {es : List Expr}, noStars es = true → (backTo pos (starEach es env)).all (fun x => !x.1) = true
  | [], _ => rfl
  | e :: es, h => by
    unfold noStars at h
    rw [List.all_cons, Bool.and_eq_true] at h
    rw [star_cons h.1]
    show (true && (backTo pos (starEach es env)).all (fun x => !x.1)) = true
    rw [star_all h.2] <;> rfl
theorem base_ok {o : Expr} {n : Str} {env : Env} {w : Sem Value} (h : plainBase o = true) : attributeBase o n env w = w := by
  unfold attributeBase
  split
  · cases h
  · rfl
theorem mark_ok {op : CmpOp} {b : Expr} (h : notSet b = true) : behindInMarks op b = false := by
  cases b <;> first | rfl | cases h
theorem ix_ok {b : Expr} (h : notSlice b = true) : PlainIx b := by
  intro o i
  cases b <;> first | rfl | cases h
theorem test_ok {e : Expr} {env : Env} (h : plainTest e = true) : ∀ whole, isTrue e env whole = (do let v ← whole; standAt e.pos; holding [v] (truthy v)) := by
  intro whole
  cases e <;> first | rfl | cases h
theorem set_ok {e : Expr} {env : Env} (h : notSet e = true) : ∀ x, foldedSetIterable e env x = pure x := by
  intro x
  cases e <;> first | rfl | cases h

section
variable {G : Gx} {σ : St} {μ : Mu} {H : Hp}
theorem liftA_bind {t : FS → Sto → Out (List D)} {Q : List V → Hp → Prop} {S : Sto} {f : FS} (R : RepS G.K G.C μ S H) (L : Sl G.K μ H f σ) {β : Type} {k : List D → Sto → Out β} {Good : Out β → Prop}
    (h : Good ((t f S).bind k)) (hx : ∀ c fs S', Good (.exc c fs S') → ∀ H' μ' dd, Ext μ H μ' H' → RepS G.K G.C μ' S' H' → XIs G.K μ' H' fs dd → G.W (.ref (G.C c)) dd σ H') (hb : ¬ Good .bad)
    (go : ∀ d S' v H' μ', t f S = .ok d S' → Ext μ H μ' H' → RepS G.K G.C μ' S' H' → IsL G.K μ' H' d v → Good (k d S') → Q v H') : liftA G t σ H Q := by
  refine ⟨μ, f, S, R, L, ?_⟩
  cases e : t f S with
  | ok d S' =>
    rw [e] at h
    exact fun v H' μ' x R' i => go d S' v H' μ' e x R' i h
  | exc c fs S' =>
    rw [e] at h
    exact hx c fs S' h
  | bad =>
    rw [e] at h
    exact hb h
/-- a pure operation's end -/
theorem GoodE.op {Q : VK} {o : Out D} (ne : ∀ c fs S', o ≠ .exc c fs S') (h : GoodE G σ μ H Q o) : GoodV G.K G.C μ H Q o := by
  cases o with
  | ok d S => exact h
  | exc c fs S => exact absurd rfl (ne c fs S)
  | bad => exact h
end

/-! ### no operation raises -/
theorem binD_ne (op : Bop) (a b : D) (S : Sto) : ∀ c fs S', binD op a b S ≠ .exc c fs S' := by
  intro c fs S' h
  unfold binD at h
  split at h <;> (try cases h) <;> (split at h <;> (try cases h)) <;> (split at h <;> cases h)
theorem cmpD_ne (op : Cop) (a b : D) (S : Sto) : ∀ c fs S', cmpD op a b S ≠ .exc c fs S' := by
  intro c fs S' h
  cases op <;> (simp only [cmpD, boolD] at h; split at h <;> cases h)
theorem catD_ne (a b : D) (S : Sto) : ∀ c fs S', catD a b S ≠ .exc c fs S' := by
  intro c fs S' h
  unfold catD at h
  repeat' (first | cases h | split at h)
theorem dsubD_ne (a b : D) (S : Sto) : ∀ c fs S', dsubD a b S ≠ .exc c fs S' := by
  intro c fs S' h
  unfold dsubD at h
  repeat' (first | cases h | split at h)
theorem subD_ne (a b : D) (S : Sto) : ∀ c fs S', subD a b S ≠ .exc c fs S' := by
  intro c fs S' h
  unfold subD at h
  repeat' (first | exact dsubD_ne _ _ _ _ _ _ h | cases h | split at h)
theorem slcD_ne (a : D) (l r : Option Int) (S : Sto) : ∀ c fs S', slcD a l r S ≠ .exc c fs S' := by
  intro c fs S' h
  unfold slcD at h
  repeat (first | cases h | split at h)
theorem bltD_ne (b : Blt) (a : List D) (S : Sto) : ∀ c fs S', bltD b a S ≠ .exc c fs S' := by
  intro c fs S' h
  unfold bltD at h
  repeat (first | cases h | split at h)
theorem mthD_ne (b : Mt) (o : D) (a : List D) (S : Sto) : ∀ c fs S', mthD b o a S ≠ .exc c fs S' := by
  intro c fs S' h
  unfold mthD at h
  repeat (first | cases h | split at h)

section
variable {X : Cx} {G : Gx}
/-! ### names, constants -/
theorem fe_var {i : Nat} {x : Str} {pos : Pos} (hN : X.N[i]? = some x) (hv : Vis X.env.scope x) (hd : (x == ("__debug__" : Str)) = false) (hc : (x == ("__classdict__" : Str)) = false) :
    PE X (.Name x pos) (lift G fun f S => match f[i]? with
      | some (some d) => .ok d S
      | _ => .bad) := by
  refine PE.imp (pe_var (i := i) hN hv hd hc) fun σ H Q h => ?_
  obtain ⟨μ, f, S, R, L, g⟩ := h
  dsimp only at g
  split at g
  · rename_i d e
    obtain ⟨v, e1, q⟩ := L.at_ i d e
    exact ⟨v, e1, g v H μ Ext.refl R q⟩
  · exact g.elim
theorem fe_const {e : Expr} {d : D} {v : V} (h : PE X e (tC v)) (i : ∀ μ H, Is G.K μ H d v) : PE X e (lift G fun _ S => .ok d S) :=
  PE.imp h fun σ H Q ⟨μ, f, S, R, L, g⟩ => g v H μ Ext.refl R (i μ H)

/-! ### two parts and an operation -/
theorem two_lift {g : D → D → Sto → Out D} {ta tb : FS → Sto → Out D} (ne : ∀ a b S c fs S', g a b S ≠ .exc c fs S') (σ : St) (H : Hp) (Q : VK)
    (h : lift G (fun f S => (ta f S).bind fun x S => (tb f S).bind fun y S => g x y S) σ H Q) : tOp (rD2 G.K G.C g) (lift G ta) (lift G tb) σ H Q := by
  obtain ⟨μ, f, S, R, L, h⟩ := h
  refine lift_bind R L (Good := GoodE G σ μ H Q) h (fun _ _ _ z => z) (fun z => z) fun d S1 v H1 μ1 e1 x1 R1 i1 h1 => ?_
  refine lift_bind R1 (L.mono R.toRep0 x1) (Good := GoodE G σ μ1 H1 Q) (GoodE.mono x1 h1) (fun _ _ _ z => z) (fun z => z) fun d2 S2 v2 H2 μ2 e2 x2 R2 i2 h2 => ?_
  exact ⟨μ2, S2, d, d2, R2, i1.mono R1.toRep0 x2, i2, GoodE.op (ne d d2 S2) (GoodE.mono x2 h2)⟩
theorem fe_bin {op : Operator} {g : D → D → Sto → Out D} {a b : Expr} {pos : Pos} {ta tb : FS → Sto → Out D} (ho : OpR X (binaryOp op) (rD2 G.K G.C g)) (ne : ∀ a b S c fs S', g a b S ≠ .exc c fs S') (ha : PE X a (lift G ta)) (hb : PE X b (lift G tb)) :
    PE X (.BinOp a op b pos) (lift G fun f S => (ta f S).bind fun x S => (tb f S).bind fun y S => g x y S) := PE.imp (pe_op ho ha hb) (two_lift ne)
theorem fe_cmp {op : CmpOp} {g : D → D → Sto → Out D} {a b : Expr} {pos : Pos} {ta tb : FS → Sto → Out D} (ho : OpR X (compareOp op) (rD2 G.K G.C g)) (ne : ∀ a b S c fs S', g a b S ≠ .exc c fs S') (ha : PE X a (lift G ta)) (hb : PE X b (lift G tb)) (hm : notSet b = true) :
    PE X (.Compare a [op] [b] pos) (lift G fun f S => (ta f S).bind fun x S => (tb f S).bind fun y S => g x y S) := PE.imp (pe_cmpR ho ha hb (mark_ok hm)) (two_lift ne)
theorem fe_sub {a b : Expr} {pos : Pos} {ta tb : FS → Sto → Out D} (k : G.K = X.K) (hu : X.A.units + 1 < cLine) (ha : PE X a (lift G ta)) (hb : PE X b (lift G tb)) (hs : notSlice b = true) :
    PE X (.Subscript a b pos) (lift G fun f S => (ta f S).bind fun x S => (tb f S).bind fun y S => subD x y S) :=
  PE.imp (pe_ix (r := rD2 G.K G.C subD) (by rw [k]; exact ix_D hu) ha hb (ix_ok hs)) (two_lift subD_ne)

/-! ### tests -/
/-- a test by its value -/
theorem test_of {t : FS → Sto → Out D} (σ : St) (H : Hp) (Q : Bool → Hp → Prop) (h : liftT G t σ H Q) : lift G t σ H (fun x H' => ∃ k, x = .bl k ∧ Q k H') := by
  obtain ⟨μ, f, S, R, L, g⟩ := h
  refine ⟨μ, f, S, R, L, ?_⟩
  cases e : t f S with
  | ok d S' =>
    rw [e] at g
    cases d with
    | bl b => exact fun v H' μ' x R' i => ⟨b, i, g H' μ' x R'⟩
    | _ => exact g.elim
  | exc c fs S' =>
    rw [e] at g
    exact g
  | bad =>
    rw [e] at g
    exact g
theorem ft_val {e : Expr} {t : FS → Sto → Out D} (h : PE X e (lift G t)) (hp : plainTest e = true) : PT X e (liftT G t) := PT.imp (pt_val h (test_ok hp)) test_of
theorem ft_cmp {op : CmpOp} {g : D → D → Sto → Out D} {a b : Expr} {pos : Pos} {ta tb : FS → Sto → Out D} (ho : OpR X (compareOp op) (rD2 G.K G.C g)) (ne : ∀ a b S c fs S', g a b S ≠ .exc c fs S') (ha : PE X a (lift G ta)) (hb : PE X b (lift G tb)) (hm : notSet b = true) :
    PT X (.Compare a [op] [b] pos) (liftT G fun f S => (ta f S).bind fun x S => (tb f S).bind fun y S => g x y S) :=
  PT.imp (pt_cmpR ho ha hb (mark_ok hm)) fun σ H Q h => two_lift ne σ H _ (test_of σ H Q h)

/-! ### is -/
theorem isND_v {K : PySem.W.Frag} {μ : Mu} {H : Hp} {d : D} {v : V} (i : Is K μ H d v) : decide (v = .non) = isND d := by
  cases d with
  | non => cases i; rfl
  | bl b => cases i; rfl
  | int b => cases i; rfl
  | str b => cases i; rfl
  | tup b => obtain ⟨a, vs, rfl, _⟩ := i; rfl
  | lst b => obtain ⟨a, vs, rfl, _⟩ := i; rfl
  | scr b => obtain ⟨a, rfl, _⟩ := i; rfl
  | ref b => obtain ⟨a, rfl, _⟩ := i; rfl
  | dct b c => obtain ⟨a, vs, rfl, _⟩ := i; rfl
theorem isN_lift {ta : FS → Sto → Out D} {h : D → Bool} {g : V → Bool} (hg : ∀ {μ : Mu} {H : Hp} {d : D} {v : V}, Is G.K μ H d v → g v = h d) (σ : St) (H : Hp) (Q : VK)
    (z : lift G (fun f S => (ta f S).bind fun x S => .ok (.bl (h x)) S) σ H Q) : lift G ta σ H (fun x H1 => Q (.bl (g x)) H1) := by
  obtain ⟨μ, f, S, R, L, z⟩ := z
  refine lift_bind R L (Good := GoodE G σ μ H Q) z (fun _ _ _ z => z) (fun z => z) fun d S1 v H1 μ1 e1 x1 R1 i1 h1 => ?_
  rw [hg i1]
  exact h1 _ H1 μ1 x1 R1 rfl
theorem fe_isN {a : Expr} {j : Nat} {p pos : Pos} {ta : FS → Sto → Out D} (ha : PE X a (lift G ta)) : PE X (.Compare a [.Is] [.Constant .none j p] pos) (lift G fun f S => (ta f S).bind fun x S => .ok (.bl (isND x)) S) :=
  PE.imp (pe_cmp (pc_isN ha)) fun σ H Q h => isN_lift (g := fun v => decide (v = .non)) isND_v σ H Q h
theorem fe_notN {a : Expr} {j : Nat} {p pos : Pos} {ta : FS → Sto → Out D} (ha : PE X a (lift G ta)) : PE X (.Compare a [.IsNot] [.Constant .none j p] pos) (lift G fun f S => (ta f S).bind fun x S => .ok (.bl (!isND x)) S) :=
  PE.imp (pe_cmp (pc_notN ha)) fun σ H Q h => isN_lift (g := fun v => !decide (v = .non)) (fun i => by rw [isND_v i]) σ H Q h
theorem ft_isN {a : Expr} {j : Nat} {p pos : Pos} {ta : FS → Sto → Out D} (ha : PE X a (lift G ta)) : PT X (.Compare a [.Is] [.Constant .none j p] pos) (liftT G fun f S => (ta f S).bind fun x S => .ok (.bl (isND x)) S) :=
  PT.imp (pt_cmp (pc_isN ha)) fun σ H Q h => isN_lift (g := fun v => decide (v = .non)) isND_v σ H _ (test_of σ H Q h)
theorem ft_notN {a : Expr} {j : Nat} {p pos : Pos} {ta : FS → Sto → Out D} (ha : PE X a (lift G ta)) : PT X (.Compare a [.IsNot] [.Constant .none j p] pos) (liftT G fun f S => (ta f S).bind fun x S => .ok (.bl (!isND x)) S) :=
  PT.imp (pt_cmp (pc_notN ha)) fun σ H Q h => isN_lift (g := fun v => !decide (v = .non)) (fun i => by rw [isND_v i]) σ H _ (test_of σ H Q h)
theorem isB_lift {neg b : Bool} {ta : FS → Sto → Out D} (σ : St) (H : Hp) (Q : VK) (z : lift G (fun f S => (ta f S).bind fun x S => if neg then notBD b x S else isBD b x S) σ H Q) :
    tOp (fun x y H Q => ∃ a b, x = .bl a ∧ y = .bl b ∧ Q (.bl (if neg then !decide (a = b) else decide (a = b))) H) (lift G ta) (tC (.bl b)) σ H Q := by
  obtain ⟨μ, f, S, R, L, z⟩ := z
  refine lift_bind R L (Good := GoodE G σ μ H Q) z (fun _ _ _ z => z) (fun z => z) fun d S1 v H1 μ1 e1 x1 R1 i1 h1 => ?_
  cases d with
  | bl k =>
    cases i1
    refine ⟨k, b, rfl, rfl, ?_⟩
    cases neg with
    | false => exact h1 _ H1 μ1 x1 R1 (by cases k <;> cases b <;> rfl)
    | true => exact h1 _ H1 μ1 x1 R1 (by cases k <;> cases b <;> rfl)
  | _ => cases neg <;> exact h1.elim
theorem fe_isB {a : Expr} {b : Bool} {j : Nat} {p pos : Pos} {ta : FS → Sto → Out D} (ha : PE X a (lift G ta)) : PE X (.Compare a [.Is] [.Constant (.bool b) j p] pos) (lift G fun f S => (ta f S).bind fun x S => isBD b x S) :=
  PE.imp (pe_cmpR op_is_bl ha pe_bl rfl) fun σ H Q h => isB_lift (neg := false) σ H Q h
theorem fe_notB {a : Expr} {b : Bool} {j : Nat} {p pos : Pos} {ta : FS → Sto → Out D} (ha : PE X a (lift G ta)) : PE X (.Compare a [.IsNot] [.Constant (.bool b) j p] pos) (lift G fun f S => (ta f S).bind fun x S => notBD b x S) :=
  PE.imp (pe_cmpR op_isnot_bl ha pe_bl rfl) fun σ H Q h => isB_lift (neg := true) σ H Q h
theorem ft_isB {a : Expr} {b : Bool} {j : Nat} {p pos : Pos} {ta : FS → Sto → Out D} (ha : PE X a (lift G ta)) : PT X (.Compare a [.Is] [.Constant (.bool b) j p] pos) (liftT G fun f S => (ta f S).bind fun x S => isBD b x S) :=
  PT.imp (pt_cmpR op_is_bl ha pe_bl rfl) fun σ H Q h => isB_lift (neg := false) σ H _ (test_of σ H Q h)
theorem ft_notB {a : Expr} {b : Bool} {j : Nat} {p pos : Pos} {ta : FS → Sto → Out D} (ha : PE X a (lift G ta)) : PT X (.Compare a [.IsNot] [.Constant (.bool b) j p] pos) (liftT G fun f S => (ta f S).bind fun x S => notBD b x S) :=
  PT.imp (pt_cmpR op_isnot_bl ha pe_bl rfl) fun σ H Q h => isB_lift (neg := true) σ H _ (test_of σ H Q h)

/-! ### and, or, not, if -/
variable {a b e : Expr} {ta tb tc : FS → Sto → Out D} {pos : Pos}
theorem fe_and {rest : List Expr} (ha : PE X a (lift G ta)) (hb : PE X (.BoolOp .And (b :: rest) pos) (lift G tb)) : PE X (.BoolOp .And (a :: b :: rest) pos) (lift G fun f S => (ta f S).bind fun x S => andD tb f x S) := by
  refine PE.imp (pe_and ha hb) fun σ H Q ⟨μ, f, S, R, L, z⟩ => ?_
  refine lift_bind R L (Good := GoodE G σ μ H Q) z (fun _ _ _ z => z) (fun z => z) fun d S1 v H1 μ1 e1 x1 R1 i1 h1 => ?_
  cases d with
  | bl k =>
    cases i1
    refine ⟨k, rfl, ?_⟩
    cases k with
    | true => exact ⟨μ1, f, S1, R1, L.mono R.toRep0 x1, GoodE.mono x1 h1⟩
    | false => exact h1 _ H1 μ1 x1 R1 rfl
  | _ => exact h1.elim
theorem fe_or {rest : List Expr} (ha : PE X a (lift G ta)) (hb : PE X (.BoolOp .Or (b :: rest) pos) (lift G tb)) : PE X (.BoolOp .Or (a :: b :: rest) pos) (lift G fun f S => (ta f S).bind fun x S => orD tb f x S) := by
  refine PE.imp (pe_or ha hb) fun σ H Q ⟨μ, f, S, R, L, z⟩ => ?_
  refine lift_bind R L (Good := GoodE G σ μ H Q) z (fun _ _ _ z => z) (fun z => z) fun d S1 v H1 μ1 e1 x1 R1 i1 h1 => ?_
  cases d with
  | bl k =>
    cases i1
    refine ⟨k, rfl, ?_⟩
    cases k with
    | false => exact ⟨μ1, f, S1, R1, L.mono R.toRep0 x1, GoodE.mono x1 h1⟩
    | true => exact h1 _ H1 μ1 x1 R1 rfl
  | _ => exact h1.elim
theorem fe_not (ha : PE X a (lift G ta)) : PE X (.UnaryOp .Not a pos) (lift G fun f S => (ta f S).bind fun x S => notD x S) := by
  refine PE.imp (pe_not ha) fun σ H Q ⟨μ, f, S, R, L, z⟩ => ?_
  refine lift_bind R L (Good := GoodE G σ μ H Q) z (fun _ _ _ z => z) (fun z => z) fun d S1 v H1 μ1 e1 x1 R1 i1 h1 => ?_
  cases d with
  | bl k =>
    cases i1
    exact ⟨k, rfl, h1 _ H1 μ1 x1 R1 rfl⟩
  | _ => exact h1.elim
theorem fe_neg (ha : PE X a (lift G ta)) : PE X (.UnaryOp .USub a pos) (lift G fun f S => (ta f S).bind fun x S => negD x S) := by
  refine PE.imp (pe_un un_neg ha) fun σ H Q ⟨μ, f, S, R, L, z⟩ => ?_
  refine lift_bind R L (Good := GoodE G σ μ H Q) z (fun _ _ _ z => z) (fun z => z) fun d S1 v H1 μ1 e1 x1 R1 i1 h1 => ?_
  cases d with
  | int k =>
    cases i1
    exact ⟨k, rfl, h1 _ H1 μ1 x1 R1 rfl⟩
  | _ => exact h1.elim
/-- one test, then the rest -/
theorem liftT_bind {t : FS → Sto → Out D} {σ : St} {H : Hp} {μ : Mu} {Q : Bool → Hp → Prop} {S : Sto} {f : FS} (R : RepS G.K G.C μ S H) (L : Sl G.K μ H f σ) {β : Type} {k : D → Sto → Out β} {Good : Out β → Prop}
    (h : Good ((t f S).bind k)) (hx : ∀ c fs S', Good (.exc c fs S') → ∀ H' μ' dd, Ext μ H μ' H' → RepS G.K G.C μ' S' H' → XIs G.K μ' H' fs dd → G.W (.ref (G.C c)) dd σ H') (hb : ¬ Good .bad)
    (hk : ∀ d S', (∀ b, d ≠ .bl b) → ¬ Good (k d S')) (go : ∀ b S' H' μ', Ext μ H μ' H' → RepS G.K G.C μ' S' H' → Good (k (.bl b) S') → Q b H') : liftT G t σ H Q := by
  refine ⟨μ, f, S, R, L, ?_⟩
  cases e : t f S with
  | ok d S' =>
    rw [e] at h
    by_cases hd : ∃ b, d = .bl b
    · obtain ⟨b, rfl⟩ := hd
      exact fun H' μ' x R' => go b S' H' μ' x R' h
    · exact absurd h (hk d S' fun b z => hd ⟨b, z⟩)
  | exc c fs S' =>
    rw [e] at h
    exact hx c fs S' h
  | bad =>
    rw [e] at h
    exact hb h
theorem andD_bool (f : FS) (d : D) (S : Sto) (h : ∀ b, d ≠ .bl b) : andD tb f d S = .bad := by
  cases d <;> first | rfl | exact absurd rfl (h _)
theorem orD_bool (f : FS) (d : D) (S : Sto) (h : ∀ b, d ≠ .bl b) : orD tb f d S = .bad := by
  cases d <;> first | rfl | exact absurd rfl (h _)
theorem iteD_bool (f : FS) (d : D) (S : Sto) (h : ∀ b, d ≠ .bl b) : iteD ta tb f d S = .bad := by
  cases d <;> first | rfl | exact absurd rfl (h _)
theorem notD_bool (d : D) (S : Sto) (h : ∀ b, d ≠ .bl b) : notD d S = .bad := by
  cases d <;> first | rfl | exact absurd rfl (h _)
theorem fw_and {rest : List Expr} (ha : PT X a (liftT G ta)) (hb : PW X (.BoolOp .And (b :: rest) pos) (liftT G tb)) : PW X (.BoolOp .And (a :: b :: rest) pos) (liftT G fun f S => (ta f S).bind fun x S => andD tb f x S) := by
  refine PW.imp (pw_and ha hb) fun σ H Q ⟨μ, f, S, R, L, z⟩ => ?_
  refine liftT_bind R L (Good := GoodT G σ μ H Q) z (fun _ _ _ z => z) (fun z => z) (fun d S' hd => by rw [andD_bool f d S' hd]; exact fun z => z) fun c S1 H1 μ1 x1 R1 h1 => ?_
  cases c with
  | true => exact ⟨μ1, f, S1, R1, L.mono R.toRep0 x1, GoodT.mono x1 h1⟩
  | false => exact h1 H1 μ1 x1 R1
theorem fw_or {rest : List Expr} (ha : PT X a (liftT G ta)) (hb : PW X (.BoolOp .Or (b :: rest) pos) (liftT G tb)) : PW X (.BoolOp .Or (a :: b :: rest) pos) (liftT G fun f S => (ta f S).bind fun x S => orD tb f x S) := by
  refine PW.imp (pw_or ha hb) fun σ H Q ⟨μ, f, S, R, L, z⟩ => ?_
  refine liftT_bind R L (Good := GoodT G σ μ H Q) z (fun _ _ _ z => z) (fun z => z) (fun d S' hd => by rw [orD_bool f d S' hd]; exact fun z => z) fun c S1 H1 μ1 x1 R1 h1 => ?_
  cases c with
  | false => exact ⟨μ1, f, S1, R1, L.mono R.toRep0 x1, GoodT.mono x1 h1⟩
  | true => exact h1 H1 μ1 x1 R1
theorem ft_not (ha : PT X a (liftT G ta)) : PT X (.UnaryOp .Not a pos) (liftT G fun f S => (ta f S).bind fun x S => notD x S) := by
  refine PT.imp (pt_not ha) fun σ H Q ⟨μ, f, S, R, L, z⟩ => ?_
  refine liftT_bind R L (Good := GoodT G σ μ H Q) z (fun _ _ _ z => z) (fun z => z) (fun d S' hd => by rw [notD_bool d S' hd]; exact fun z => z) fun c S1 H1 μ1 x1 R1 h1 => ?_
  exact h1 H1 μ1 x1 R1
theorem fe_ite {c : Expr} (hc : PT X c (liftT G tc)) (ha : PE X a (lift G ta)) (hb : PE X b (lift G tb)) : PE X (.IfExp c a b pos) (lift G fun f S => (tc f S).bind fun x S => iteD ta tb f x S) := by
  refine PE.imp (pe_ifExp hc ha hb) fun σ H Q ⟨μ, f, S, R, L, z⟩ => ?_
  refine liftT_bind R L (Good := GoodE G σ μ H Q) z (fun _ _ _ z => z) (fun z => z) (fun d S' hd => by rw [iteD_bool f d S' hd]; exact fun z => z) fun c S1 H1 μ1 x1 R1 h1 => ?_
  cases c with
  | true => exact ⟨μ1, f, S1, R1, L.mono R.toRep0 x1, GoodE.mono x1 h1⟩
  | false => exact ⟨μ1, f, S1, R1, L.mono R.toRep0 x1, GoodE.mono x1 h1⟩

/-! ### argument lists, displays -/
theorem fa_nil : PA X [] (liftA G fun _ S => .ok [] S) := PA.imp pa_nil fun σ H Q ⟨μ, f, S, R, L, z⟩ => z [] H μ Ext.refl R rfl
theorem fa_cons {es : List Expr} {t : FS → Sto → Out (List D)} (ha : PE X e (lift G ta)) (hr : PA X es (liftA G t)) (hs : notStar e = true) : PA X (e :: es) (liftA G fun f S => (ta f S).bind fun d S => (t f S).bind fun ds S => .ok (d :: ds) S) := by
  refine PA.imp (pa_cons ha hr (star_cons hs)) fun σ H Q ⟨μ, f, S, R, L, z⟩ => ?_
  refine lift_bind R L (Good := GoodA G σ μ H Q) z (fun _ _ _ z => z) (fun z => z) fun d S1 v H1 μ1 e1 x1 R1 i1 h1 => ?_
  refine liftA_bind R1 (L.mono R.toRep0 x1) (Good := GoodA G σ μ1 H1 Q) (GoodA.mono x1 h1) (fun _ _ _ z => z) (fun z => z) fun d2 S2 v2 H2 μ2 e2 x2 R2 i2 h2 => ?_
  exact h2 (v :: v2) H2 μ2 x2 R2 ⟨v, v2, rfl, i1.mono R1.toRep0 x2, i2⟩
theorem fe_tup {es : List Expr} {k : Nat} {t : FS → Sto → Out (List D)} (k0 : G.K = X.K) (h : PA X es (liftA G t)) : PE X (.Tuple es k pos) (lift G fun f S => (t f S).bind fun ds S => if ds.length ≤ sz then .ok (.tup ds) S else .bad) := by
  refine PE.imp (PE.kno (pe_tup h)) fun σ H Q ⟨μ, f, S, R, L, z⟩ => ?_
  refine liftA_bind R L (Good := GoodE G σ μ H Q) z (fun _ _ _ z => z) (fun z => z) fun ds S1 vs H1 μ1 e1 x1 R1 i1 h1 => ?_
  split at h1
  · rename_i hl
    refine ⟨by rw [i1.length, szl]; exact hl, fun p np => ?_⟩
    rw [← k0]
    exact GoodV.newT (show GoodV G.K G.C μ1 H1 Q (.ok (.tup ds) S1) from GoodE.mono x1 h1) R1 i1 np
  · exact h1.elim
/-- a list display, new -/
theorem fn_lst {es : List Expr} {t : FS → Sto → Out (List D)} (k0 : G.K = X.K) (h : PA X es (liftA G t)) : PE X (.List es pos) (liftN G fun f S => (t f S).bind fun ds S => if ds.length ≤ sz then .ok (.lst ds) S else .bad) := by
  refine PE.imp (PE.kno (pe_lst h)) fun σ H Q ⟨μ, f, S, R, L, z⟩ => ?_
  refine liftA_bind R L (Good := GoodN G σ μ H Q) z (fun _ _ _ z => z) (fun z => z) fun ds S1 vs H1 μ1 e1 x1 R1 i1 h1 => ?_
  split at h1
  · rename_i hl
    refine ⟨by rw [i1.length, szl]; exact hl, fun p np => ?_⟩
    rw [← k0]
    exact fun kz => h1 vs p H1 μ1 x1 R1 i1 np kz
  · exact h1.elim
/-- what is new may be had by value -/
theorem fe_ofN {t : FS → Sto → Out D} (ok : ∀ f S d S', t f S = .ok d S' → ∃ ds, d = .lst ds) (h : PE X e (liftN G t)) : PE X e (lift G t) := by
  refine PE.imp h fun σ H Q ⟨μ, f, S, R, L, z⟩ => ⟨μ, f, S, R, L, ?_⟩
  cases q : t f S with
  | ok d S' =>
    obtain ⟨ds, rfl⟩ := ok f S d S' q
    rw [q] at z
    exact fun vs p H1 μ1 x1 R1 i1 np kz => z _ _ _ (x1.trans (ext_alloc R1.toRep0 np)) (R1.alloc np kz) ⟨p, vs, rfl, R1.notin np, upd_same, i1.mono R1.toRep0 (ext_alloc R1.toRep0 np)⟩
  | exc c fs S' => rw [q] at z; exact z
  | bad => rw [q] at z; exact z
/-- .. or as one of the store -/
theorem fe_new {t : FS → Sto → Out D} (h : PE X e (liftN G t)) : PE X e (lift G fun f S => (t f S).bind fun d S => newD d S) := by
  refine PE.imp h fun σ H Q ⟨μ, f, S, R, L, z⟩ => ⟨μ, f, S, R, L, ?_⟩
  dsimp only at z
  cases q : t f S with
  | ok d S' =>
    rw [q] at z
    cases d with
    | lst ds =>
      refine fun vs p H1 μ1 x1 R1 i1 np kz => z _ _ _ (x1.trans (ext_own np)) (R1.push np kz ⟨vs, upd_same, i1.mono R1.toRep0 (ext_own np)⟩) ⟨p, rfl, ?_⟩
      show (μ1.l ++ [p])[S'.length]? = some p
      rw [← R1.len, List.getElem?_append_right (Nat.le_refl _)]
      simp
    | _ => exact z
  | exc c fs S' => rw [q] at z; exact z
  | bad => rw [q] at z; exact z
end
end SL
set_option Elab.async false
set_option linter.all false
set_option maxRecDepth 100000
set_option maxHeartbeats 1000000
/-! A6: calls, methods, isinstance, slices, what is walked, comprehensions. -/
namespace SL
open PySem PySem.Spec L2

section
variable {X : Cx} {G : Gx} {e : Expr} {es : List Expr} {t : FS → Sto → Out (List D)} {pos p : Pos}
/-! ### built-in functions -/
theorem call_lift {g : List D → Sto → Out D} (ne : ∀ a S c fs S', g a S ≠ .exc c fs S') (σ : St) (H : Hp) (Q : VK) (h : lift G (fun f S => (t f S).bind fun ds S => g ds S) σ H Q) : tCB (rDL G.K G.C g) (liftA G t) σ H Q := by
  obtain ⟨μ, f, S, R, L, h⟩ := h
  refine liftA_bind R L (Good := GoodE G σ μ H Q) h (fun _ _ _ z => z) (fun z => z) fun d S1 v H1 μ1 e1 x1 R1 i1 h1 => ?_
  exact ⟨μ1, S1, d, R1, i1, GoodE.op (ne d S1) (GoodE.mono x1 h1)⟩
theorem fe_blt {id : String} {x : Str} {b : Blt} (hc : CallR X (.builtin id) (rDL G.K G.C (bltD b))) (hg : Gl X x) (hm : X.mg x = none) (hv : bootBuiltins x = some (.builtin id)) (ha : PA X (e :: es) (liftA G t)) (hs : noStars (e :: es) = true) (hn : x ≠ "__name__") (hdb : (x == ("__debug__" : Str)) = false) :
    PE X (.Call (.Name x p) (e :: es) [] pos) (lift G fun f S => (t f S).bind fun ds S => bltD b ds S) := by
  unfold noStars at hs
  rw [List.all_cons, Bool.and_eq_true] at hs
  exact PE.imp (pe_callB hc hg hm hv ha hn hdb (star_cons hs.1) (star_any hs.2)) (call_lift (bltD_ne b))
theorem fe_bty {T : String} {x : Str} {b : Blt} (hc : CallR X (.type T) (rDL G.K G.C (bltD b))) (hg : Gl X x) (hm : X.mg x = none) (hv : bootBuiltins x = some (.type T)) (ha : PA X (e :: es) (liftA G t)) (hs : noStars (e :: es) = true) (hn : x ≠ "__name__") (hdb : (x == ("__debug__" : Str)) = false) :
    PE X (.Call (.Name x p) (e :: es) [] pos) (lift G fun f S => (t f S).bind fun ds S => bltD b ds S) := by
  unfold noStars at hs
  rw [List.all_cons, Bool.and_eq_true] at hs
  exact PE.imp (pe_callTy hc hg hm hv ha hn hdb (star_cons hs.1) (star_any hs.2)) (call_lift (bltD_ne b))
/-- list(..), new -/
theorem fn_list {x : Str} (k : G.K = X.K) (hg : Gl X x) (hm : X.mg x = none) (hv : bootBuiltins x = some (.type "list")) (ha : PA X (e :: es) (liftA G t)) (hs : noStars (e :: es) = true) (hn : x ≠ "__name__") (hdb : (x == ("__debug__" : Str)) = false) :
    PE X (.Call (.Name x p) (e :: es) [] pos) (liftN G fun f S => (t f S).bind fun ds S => bltD .list ds S) := by
  unfold noStars at hs
  rw [List.all_cons, Bool.and_eq_true] at hs
  refine PE.imp (PE.kno (pe_callTy call_list_of hg hm hv ha hn hdb (star_cons hs.1) (star_any hs.2))) fun σ H Q ⟨μ, f, S, R, L, h⟩ => ?_
  refine liftA_bind R L (Good := GoodN G σ μ H Q) h (fun _ _ _ z => z) (fun z => z) fun ds S1 vs H1 μ1 e1 x1 R1 i1 h1 => ?_
  match ds, i1, h1 with
  | [d], i1, h1 =>
    obtain ⟨v, rfl, j⟩ := isL_one i1
    simp only [bltD] at h1
    cases e2 : seqOf S1 d with
    | none => rw [e2] at h1; exact h1.elim
    | some xs =>
      rw [e2] at h1
      obtain ⟨a, us, rfl, hq, l⟩ := R1.seq j e2
      rw [← k]
      exact ⟨a, us, rfl, hq, fun p np kz => h1 us p H1 μ1 x1 R1 l np kz⟩
  | [], i1, h1 => exact h1.elim
  | a :: b :: c, i1, h1 => exact h1.elim

/-! ### methods -/
def mtT : Mt → String
  | .join => "str"
  | .find => "str"
  | .partition => "str"
  | .split => "str"
  | _ => "list"
theorem recv_ty {K : PySem.W.Frag} {C : Nat → Addr} {μ : Mu} {H : Hp} {S : Sto} {m : Mt} {d : D} {v : V} {T : String} (R : RepS K C μ S H) (i : Is K μ H d v) (h : recv m S d = true) (hT : T = mtT m) : tyV K T v H := by
  have hl : ∀ {d : D}, Is K μ H d v → (match d with
    | .lst _ => true
    | .ref k => match S[k]? with
      | some (.lst _) => true
      | _ => false
    | _ => false) = true → tyV K "list" v H := by
    intro d i h
    have : ∃ ds, items S d = some ds := by
      cases d with
      | lst ds => exact ⟨ds, rfl⟩
      | ref k =>
        cases e : S[k]? with
        | none => simp only [e] at h; cases h
        | some o =>
          simp only [e] at h
          cases o with
          | lst ds => exact ⟨ds, by simp only [items, e]⟩
          | ins _ _ => cases h
          | exc _ _ => cases h
          | dct _ _ => cases h
      | _ => cases h
    obtain ⟨ds, e⟩ := this
    obtain ⟨a, vs, rfl, q, _⟩ := R.items i e
    exact .inl ⟨rfl, vs, .inl (.inl q)⟩
  subst hT
  cases m with
  | join =>
    cases d with
    | str z => cases i; rfl
    | _ => cases h
  | find =>
    cases d with
    | str z => cases i; rfl
    | _ => cases h
  | partition =>
    cases d with
    | str z => cases i; rfl
    | _ => cases h
  | split =>
    cases d with
    | str z => cases i; rfl
    | _ => cases h
  | _ => exact hl i h
theorem mth_lift {ta : FS → Sto → Out D} {m : Mt} {T : String} (hT : T = mtT m) (σ : St) (H : Hp) (Q : VK) (h : lift G (fun f S => (ta f S).bind fun x S => mthX m t f x S) σ H Q) : tBM G.K T (rDM G.K G.C (mthD m)) (lift G ta) (liftA G t) σ H Q := by
  obtain ⟨μ, f, S, R, L, h⟩ := h
  refine lift_bind R L (Good := GoodE G σ μ H Q) h (fun _ _ _ z => z) (fun z => z) fun d S1 v H1 μ1 e1 x1 R1 i1 h1 => ?_
  unfold mthX at h1
  split at h1
  · rename_i hr
    refine ⟨recv_ty R1 i1 hr hT, ?_⟩
    refine liftA_bind R1 (L.mono R.toRep0 x1) (Good := GoodE G σ μ1 H1 Q) (GoodE.mono x1 h1) (fun _ _ _ z => z) (fun z => z) fun d2 S2 v2 H2 μ2 e2 x2 R2 i2 h2 => ?_
    exact ⟨μ2, S2, d, d2, R2, i1.mono R1.toRep0 x2, i2, GoodE.op (mthD_ne m d d2 S2) (GoodE.mono x2 h2)⟩
  · exact h1.elim
theorem fe_mth {o : Expr} {ta : FS → Sto → Out D} {m : Mt} {T id : String} {name : Str} {apos cpos : Pos} (k : G.K = X.K) (pa : PlainAttrs T) (slot : Slot T name id) (hty : typeOf (.builtin id) = pure (.type "method_descriptor")) (hm : MtR X id (rDM X.K G.C (mthD m)))
    (hT : T = mtT m) (ho : PE X o (lift G ta)) (ha : PA X (e :: es) (liftA G t)) (hb : plainBase o = true) (hl : (apos.endLine == cpos.line) = true) (hs : noStars (e :: es) = true) (hf : decide ((e :: es).length < 30) = true) :
    PE X (.Call (.Attribute o name apos) (e :: es) [] cpos) (lift G fun f S => (ta f S).bind fun x S => mthX m t f x S) := by
  have hs2 := hs
  unfold noStars at hs2
  rw [List.all_cons, Bool.and_eq_true] at hs2
  refine PE.imp (pe_bm pa slot hty hm ho ha (base_ok hb) ?_ hl (star_cons hs2.1) (star_any hs2.2)) (by rw [← k]; exact mth_lift hT)
  rw [star_all hs]
  show (true && true && decide ((e :: es).length + 0 + 0 < 30)) = true
  simpa using hf

/-! ### calls of defs -/
/-- room for k calls within one another -/
structure RoomG (k : Nat) (A : Around) : Prop where
  hd : A.handled = none
  dp : A.depth + k + 20 < recursionLimit
  un : A.units + 16 * k + 300 < cLine
theorem RoomG.deeper {k : Nat} {A : Around} (r : RoomG (k + 1) A) (env : Env) : RoomG k (A.deeper env) :=
  ⟨r.hd, by have := r.dp; show A.depth + 1 + k + 20 < _; omega, by have := r.un; show A.units + 3 + 16 * k + 300 < _; omega⟩
theorem RoomG.depth {k : Nat} {A : Around} (r : RoomG k A) : A.depth < recursionLimit := by have := r.dp; omega
theorem RoomG.room {k : Nat} {A : Around} (r : RoomG k A) : Room 3 A := ⟨r.hd, by have := r.dp; omega, by have := r.un; omega⟩
structure FnG (P : Program) (w : World) (K : PySem.W.Frag) (mg : Str → Option Value) (base : Heap) (k : Nat) (f : Addr) (fd : FuncData) (ps : List Str) (sp : Sp) : Prop where
  len : ∀ vs H Q E, sp vs H Q E → vs.length = ps.length
  run : ∀ (A : Around) (outer : List Env) (s : Shared) (H : Hp) (args : Args) (us : List Value) (vs : List V) (Q : VK) (E : XK), A.guards = some [] → RoomG k A → Env0 P w K mg base A outer s H → BindsTo s fd args (ps.zip us) → Vals vs us → sp vs H Q E →
    codeAny (model P w) A (.call (.ref f) args) (CR (L2.CX P w) outer P w H s Q E) s
/-- what a def promises: its pure meaning -/
def spF (Φ : Nat → Option Def) (K : PySem.W.Frag) (C : Nat → Addr) (n g : Nat) : Sp := fun vs H Q E => ∃ μ S ds, RepS K C μ S H ∧ IsL K μ H ds vs ∧ (match callN Φ n g ds S with
  | .ok d S' => ∀ v H' μ', Ext μ H μ' H' → RepS K C μ' S' H' → Is K μ' H' d v → Q v H'
  | .exc c fs S' => ∀ H' μ' dd, Ext μ H μ' H' → RepS K C μ' S' H' → XIs K μ' H' fs dd → E (.ref (C c)) dd H'
  | .bad => False)
theorem runG {n : Nat} {f : Addr} {fd : FuncData} {ps : List Str} {sp : Sp} {pins : List (Addr × Obj)} {σ : St} {H : Hp} {s : Shared} {Q : VK} {us : List Value} {vs : List V} {W : WX} {dvs : List V} {dus : List Value} (F : FnG X.prog X.w X.K X.mg X.base n f fd ps sp) (hr : RoomG n X.A) (hg : X.A.guards = some []) (hb : Binds X.K fd ps dus) (hd : Vals dvs dus) (tk : Takes X W)
    (I : Inv X pins σ H s) (r : Vals vs us) (h : sp (vs ++ dvs) H Q fun cls d H' => W cls d σ H') : wpAny (model X.prog X.w) X.A (call (.ref f) us) (EP X pins σ Q) X.xe s := by
  have r2 : Vals (vs ++ dvs) (us ++ dus) := r.append hd
  have hl : (us ++ dus).length = ps.length := by rw [← r2.length]; exact F.len _ _ _ _ h
  refine wpAny_call (codeAny_mono (F.run X.A X.stack s H ⟨us, []⟩ (us ++ dus) (vs ++ dvs) Q _ hg hr I.env0 (hb s us I.kIn hl) r2 h) fun r s' hq => ?_)
  cases r with
  | error e => exact tk _ _ (XE.of_call I (fun _ _ _ z => z) hq)
  | ok fl =>
    cases fl with
    | ret u => exact I.after hq
    | next => exact False.elim hq
    | brk => exact False.elim hq
    | cont => exact False.elim hq
theorem fe_call {Φ : Nat → Option Def} {n g : Nat} {f : Addr} {fd : FuncData} {ps : List Str} {x : Str} (k : G.K = X.K) (F : FnG X.prog X.w X.K X.mg X.base n f fd ps (spF Φ X.K G.C n g)) (hr : RoomG n X.A) (hgd : X.A.guards = some []) (hg : Gl X x) (hm : X.mg x = some (.ref f)) (hk : PySem.W.keepIn X.K (.ref f) = true) (hb : Binds X.K fd ps []) (tk : Takes X G.W)
    (ha : PA X (e :: es) (liftA G t)) (hs : noStars (e :: es) = true) (hdb : (x == ("__debug__" : Str)) = false) :
    PE X (.Call (.Name x p) (e :: es) [] pos) (lift G fun f S => (t f S).bind fun ds S => callN Φ n g ds S) := by
  refine ⟨fun pins s σ H Q I h => ?_⟩
  obtain ⟨μ, f, S, R, L, h⟩ := h
  have la : liftA G t σ H (fun vs H1 => spF Φ X.K G.C n g vs H1 Q fun cls d H' => G.W cls d σ H') := by
    refine liftA_bind R L (Good := GoodE G σ μ H Q) h (fun _ _ _ z => z) (fun z => z) fun ds S1 vs H1 μ1 e1 x1 R1 i1 h1 => ?_
    rw [← k]
    refine ⟨μ1, S1, ds, R1, i1, ?_⟩
    have z := GoodE.mono x1 h1
    cases q : callN Φ n g ds S1 with
    | ok d S' => rw [q] at z; exact z
    | exc c fs S' => rw [q] at z; exact z
    | bad => rw [q] at z; exact z
  refine wpAny_Call_Name_kw (ld_glob I hg hm ?_ hdb)
  unfold noStars at hs
  rw [List.all_cons, Bool.and_eq_true] at hs
  refine PySem.W.callWith_K (h₀ := X.base) I.ok.mod.kin hk (thn (ha.run pos pins s σ H _ I la) fun us s1 ⟨vs, H1, I1, r, q⟩ => ⟨I1.kIn, ?_⟩) (star_cons hs.1) (star_any hs.2)
  exact runG (dvs := []) (dus := []) F hr hgd hb .nil tk I1 r (by rw [List.append_nil]; exact q)

theorem fe_callD {Φ : Nat → Option Def} {n g : Nat} {f : Addr} {fd : FuncData} {ps : List Str} {x : Str} {dus : List Value} (k : G.K = X.K) (F : FnG X.prog X.w X.K X.mg X.base n f fd ps (spF Φ X.K G.C n g)) (hr : RoomG n X.A) (hgd : X.A.guards = some []) (hg : Gl X x) (hm : X.mg x = some (.ref f)) (hk : PySem.W.keepIn X.K (.ref f) = true) (hb : Binds X.K fd ps dus) {a : Addr} (hv : Vals [.ref a] dus) (hq : ∀ H, SqT X.K H a []) (tk : Takes X G.W)
    (ha : PA X (e :: es) (liftA G t)) (hs : noStars (e :: es) = true) (hdb : (x == ("__debug__" : Str)) = false) :
    PE X (.Call (.Name x p) (e :: es) [] pos) (lift G fun f S => (t f S).bind fun ds S => callN Φ n g (ds ++ [.tup []]) S) := by
  refine ⟨fun pins s σ H Q I h => ?_⟩
  obtain ⟨μ, f, S, R, L, h⟩ := h
  have la : liftA G t σ H (fun vs H1 => spF Φ X.K G.C n g (vs ++ [.ref a]) H1 Q fun cls d H' => G.W cls d σ H') := by
    refine liftA_bind R L (Good := GoodE G σ μ H Q) h (fun _ _ _ z => z) (fun z => z) fun ds S1 vs H1 μ1 e1 x1 R1 i1 h1 => ?_
    rw [← k]
    refine ⟨μ1, S1, ds ++ [.tup []], R1, i1.append (show IsL G.K μ1 H1 [.tup []] [.ref a] from ⟨.ref a, [], rfl, ⟨a, [], rfl, by rw [k]; exact hq H1, rfl⟩, rfl⟩), ?_⟩
    have z := GoodE.mono x1 h1
    cases q : callN Φ n g (ds ++ [.tup []]) S1 with
    | ok d S' => rw [q] at z; exact z
    | exc c fs S' => rw [q] at z; exact z
    | bad => rw [q] at z; exact z
  refine wpAny_Call_Name_kw (ld_glob I hg hm ?_ hdb)
  unfold noStars at hs
  rw [List.all_cons, Bool.and_eq_true] at hs
  refine PySem.W.callWith_K (h₀ := X.base) I.ok.mod.kin hk (thn (ha.run pos pins s σ H _ I la) fun us s1 ⟨vs, H1, I1, r, q⟩ => ⟨I1.kIn, ?_⟩) (star_cons hs.1) (star_any hs.2)
  exact runG (dvs := [.ref a]) (dus := dus) F hr hgd hb hv tk I1 r q

/-! ### slices -/
def GoodO (G : Gx) (σ : St) (μ : Mu) (H : Hp) (Q : Option Int → Hp → Prop) : Out (Option Int) → Prop
  | .ok o S' => ∀ H' μ', Ext μ H μ' H' → RepS G.K G.C μ' S' H' → Q o H'
  | .exc c fs S' => ∀ H' μ' dd, Ext μ H μ' H' → RepS G.K G.C μ' S' H' → XIs G.K μ' H' fs dd → G.W (.ref (G.C c)) dd σ H'
  | .bad => False
def liftO (G : Gx) (t : FS → Sto → Out (Option Int)) : TO := fun σ H Q => ∃ μ f S, RepS G.K G.C μ S H ∧ Sl G.K μ H f σ ∧ GoodO G σ μ H Q (t f S)
theorem PO.imp {e : Option Expr} {t t' : TO} (h : PO X e t) (w : ∀ σ H Q, t' σ H Q → t σ H Q) : PO X e t' :=
  ⟨fun pins s σ H Q I q => h.run pins s σ H Q I (w σ H Q q)⟩
theorem fo_none : PO X none (liftO G fun _ S => .ok none S) := PO.imp po_none fun σ H Q ⟨μ, f, S, R, L, z⟩ => z H μ Ext.refl R
theorem fo_some {ta : FS → Sto → Out D} (ha : PE X e (lift G ta)) : PO X (some e) (liftO G fun f S => (ta f S).bind fun d S => bndD d S) := by
  refine PO.imp (po_some ha) fun σ H Q ⟨μ, f, S, R, L, z⟩ => ?_
  refine lift_bind R L (Good := GoodO G σ μ H Q) z (fun _ _ _ z => z) (fun z => z) fun d S1 v H1 μ1 e1 x1 R1 i1 h1 => ?_
  cases d with
  | int i => exact ⟨i, i1, h1 H1 μ1 x1 R1⟩
  | _ => exact h1.elim
theorem liftO_bind {t : FS → Sto → Out (Option Int)} {σ : St} {H : Hp} {μ : Mu} {Q : Option Int → Hp → Prop} {S : Sto} {f : FS} (R : RepS G.K G.C μ S H) (L : Sl G.K μ H f σ) {β : Type} {k : Option Int → Sto → Out β} {Good : Out β → Prop}
    (h : Good ((t f S).bind k)) (hx : ∀ c fs S', Good (.exc c fs S') → ∀ H' μ' dd, Ext μ H μ' H' → RepS G.K G.C μ' S' H' → XIs G.K μ' H' fs dd → G.W (.ref (G.C c)) dd σ H') (hb : ¬ Good .bad)
    (go : ∀ d S' H' μ', Ext μ H μ' H' → RepS G.K G.C μ' S' H' → Good (k d S') → Q d H') : liftO G t σ H Q := by
  refine ⟨μ, f, S, R, L, ?_⟩
  cases e : t f S with
  | ok d S' =>
    rw [e] at h
    exact fun H' μ' x R' => go d S' H' μ' x R' h
  | exc c fs S' =>
    rw [e] at h
    exact hx c fs S' h
  | bad =>
    rw [e] at h
    exact hb h
theorem fe_slc {a : Expr} {lo hi : Option Expr} {ta : FS → Sto → Out D} {tl th : FS → Sto → Out (Option Int)} {p2 : Pos} (k : G.K = X.K) (ha : PE X a (lift G ta)) (hl : PO X lo (liftO G tl)) (hh : PO X hi (liftO G th)) :
    PE X (.Subscript a (.Slice lo hi none p2) pos) (lift G fun f S => (ta f S).bind fun x S => (tl f S).bind fun l S => (th f S).bind fun h S => slcD x l h S) := by
  refine PE.imp (pe_slice (r := rSlD G.K G.C) (by rw [k]; exact sl_D) ha hl hh) fun σ H Q ⟨μ, f, S, R, L, z⟩ => ?_
  refine lift_bind R L (Good := GoodE G σ μ H Q) z (fun _ _ _ z => z) (fun z => z) fun d S1 v H1 μ1 e1 x1 R1 i1 h1 => ?_
  refine liftO_bind R1 (L.mono R.toRep0 x1) (Good := GoodE G σ μ1 H1 Q) (GoodE.mono x1 h1) (fun _ _ _ z => z) (fun z => z) fun l S2 H2 μ2 x2 R2 h2 => ?_
  refine liftO_bind R2 ((L.mono R.toRep0 x1).mono R1.toRep0 x2) (Good := GoodE G σ μ2 H2 Q) (GoodE.mono x2 h2) (fun _ _ _ z => z) (fun z => z) fun u S3 H3 μ3 x3 R3 h3 => ?_
  exact ⟨μ3, S3, d, R3, (i1.mono R1.toRep0 x2).mono R2.toRep0 x3, GoodE.op (slcD_ne d l u S3) (GoodE.mono x3 h3)⟩
end

/-! ### isinstance -/
section
variable {K : PySem.W.Frag} {C : Nat → Addr} {μ : Mu} {H : Hp} {S : Sto}
/-- the built-in type of a datum -/
def tyN (S : Sto) : D → Option String
  | .non => some "NoneType"
  | .bl _ => some "bool"
  | .int _ => some "int"
  | .str _ => some "str"
  | .tup _ => some "tuple"
  | .lst _ => some "list"
  | .scr _ => some "list"
  | .dct _ _ => none
  | .ref k => match S[k]? with
    | some (.lst _) => some "list"
    | _ => none
theorem ty_of (R : RepS K C μ S H) {d : D} {v : V} {T : String} (i : Is K μ H d v) (h : tyN S d = some T) : TyX K H v (.type T) := by
  cases d with
  | non => cases i; cases h; exact .base .non
  | bl b => cases i; cases h; exact .base (.bl b)
  | int b => cases i; cases h; exact .base (.int b)
  | str b => cases i; cases h; exact .base (.str _)
  | tup ds =>
    obtain ⟨a, vs, rfl, q, l⟩ := i
    cases h
    rcases q with (q | ⟨o, q⟩) | ⟨o, its, n, hk, hc, _⟩
    · exact .base (.tup q)
    · exact .fTuple q
    · exact .kTuple hk hc
  | lst ds =>
    obtain ⟨a, vs, rfl, _, q, l⟩ := i
    cases h
    exact .base (.lst q)
  | scr ns =>
    obtain ⟨a, rfl, q⟩ := i
    cases h
    rcases q with ⟨o, q⟩ | ⟨o, its, n, hk, hc, _⟩
    · exact .base (.frz q)
    · exact .kList hk hc
  | dct _ _ => cases h
  | ref k =>
    unfold tyN at h
    cases e : S[k]? with
    | none => simp only [e] at h; cases h
    | some o =>
      simp only [e] at h
      cases o with
      | lst ds =>
        cases h
        obtain ⟨a, rfl, _, vs, q, _⟩ := R.at i e
        exact .base (.lst q)
      | ins _ _ => cases h
      | exc _ _ => cases h
      | dct _ _ => cases h
end
theorem tyx_upd {K : PySem.W.Frag} {H : Hp} {p : Addr} {o : HO} {v : V} {t : Value} (n : H p = none) (h : TyX K H v t) : TyX K (upd H p o) v t := by
  have u : ∀ {a : Addr} {x : HO}, H a = some x → upd H p o a = some x := fun e => by rw [upd_ne (ne_of_none e n)]; exact e
  cases h with
  | base b =>
    cases b with
    | non => exact .base .non
    | bl y => exact .base (.bl y)
    | int y => exact .base (.int y)
    | str y => exact .base (.str y)
    | flt y => exact .base (.flt y)
    | lst e => exact .base (.lst (u e))
    | frz e => exact .base (.frz (u e))
    | tup e => exact .base (.tup (u e))
    | dK e => exact .base (.dK (u e))
    | dT e => exact .base (.dT (u e))
    | ins e cl ha hn htk hm => exact .base (.ins (u e) cl ha hn htk hm)
  | byt y => exact .byt y
  | set e => exact .set (u e)
  | kList e c => exact .kList e c
  | kTuple e c => exact .kTuple e c
  | kDict e c => exact .kDict e c
  | fTuple e => exact .fTuple (u e)
  | fDict e => exact .fDict (u e)
def tyS : Ty → Option String
  | .str => some "str"
  | .int => some "int"
  | .bool => some "bool"
  | .tup => some "tuple"
  | .lst => some "list"
  | _ => none
/-- a built-in type asked of a datum -/
theorem kit_data {K : PySem.W.Frag} {S : Sto} {d : D} {t : Ty} {U : String} {b : Bool} (h2 : tyS t = some U) (h3 : isTy S t d = some b) : ∃ T, tyN S d = some T ∧ PySem.W.kitOne K (.type T) (.type U) = some b := by
  have h : ∃ T, tyN S d = some T ∧ kitB T U = some b := by
    by_cases hd : ∃ k, d = .ref k
    · obtain ⟨k, rfl⟩ := hd
      cases e : S[k]? with
      | none => simp only [isTy, e] at h3; cases h3
      | some o =>
        cases o with
        | lst ds =>
          refine ⟨"list", by simp only [tyN, e], ?_⟩
          simp only [isTy, e] at h3
          cases t <;> first | (cases h2; cases h3; decide +kernel) | cases h2
        | ins _ _ => simp only [isTy, e] at h3; cases t <;> first | cases h2; done | cases h3
        | exc _ fs => simp only [isTy, e] at h3; cases t <;> first | cases h2; done | (cases fs <;> cases h3)
        | dct _ _ => simp only [isTy, e] at h3; cases t <;> first | cases h2; done | cases h3
    · cases t <;> first | cases h2 | skip
      all_goals (cases d <;> first | exact absurd ⟨_, rfl⟩ hd | (cases h3; done) | (cases h3; exact ⟨_, rfl, by decide +kernel⟩))
  obtain ⟨T, e, q⟩ := h
  exact ⟨T, e, kit_ty q⟩
theorem kit_datas {K : PySem.W.Frag} {S : Sto} {d : D} {T : String} (hT : tyN S d = some T) : ∀ {ts : List Ty} {Us : List String} {b : Bool}, ts.map tyS = Us.map some → isTys S d ts = some b → PySem.W.kitAny K (.type T) (Us.map Value.type) = some b
  | [], Us, b, h2, h3 => by
    cases Us with
    | nil => cases h3; exact kitAny_nil
    | cons _ _ => cases h2
  | t :: ts, Us, b, h2, h3 => by
    cases Us with
    | nil => cases h2
    | cons U Us =>
      rw [List.map_cons, List.map_cons] at h2
      injection h2 with e1 e2
      unfold isTys at h3
      cases q1 : isTy S t d with
      | none => rw [q1] at h3; cases h3
      | some x =>
        cases q2 : isTys S d ts with
        | none => rw [q1, q2] at h3; cases h3
        | some y =>
          rw [q1, q2] at h3
          cases h3
          obtain ⟨T', e3, e4⟩ := kit_data (K := K) e1 q1
          rw [hT] at e3
          cases e3
          rw [List.map_cons]
          refine kitAny_cons e4 (fun e => ?_) (fun e => by rw [e]; rfl)
          rw [e]
          exact kit_datas hT e2 q2
section
variable {X : Cx} {G : Gx} {a : Expr} {ta : FS → Sto → Out D} {pos p p1 p2 : Pos}
theorem fe_isi1 {t : Ty} {U : String} {y : Str} (k : G.K = X.K) (hU : tyS t = some U) (ha : PE X a (lift G ta)) (hs : notStar a = true) (hg : Gl X "isinstance") (hm : X.mg "isinstance" = none) (hgy : Gl X y) (hmy : X.mg y = none) (hby : bootBuiltins y = some (.type U)) (hny : y ≠ "__name__") (hdy : (y == ("__debug__" : Str)) = false) :
    PE X (.Call (.Name "isinstance" p) [a, .Name y p1] [] pos) (lift G fun f S => (ta f S).bind fun x S => isiD [t] x S) := by
  have h2 : PE X (.Name y p1) (tC (.ty U)) := pe_bltn hgy hmy hby rfl hny hdy
  refine PE.imp (pe_callB call_isi hg hm PyProof.Rows.boot_isinstance (pa_cons ha (pa_cons h2 pa_nil) (star_cons hs)) (by decide) (by decide) (star_cons hs)) fun σ H Q ⟨μ, f, S, R, L, z⟩ => ?_
  refine lift_bind R L (Good := GoodE G σ μ H Q) z (fun _ _ _ z => z) (fun z => z) fun d S1 v H1 μ1 e1 x1 R1 i1 h1 => ?_
  unfold isiD at h1
  cases q : isTys S1 d [t] with
  | none => rw [q] at h1; exact h1.elim
  | some b =>
    rw [q] at h1
    have q' : isTy S1 t d = some b := by
      unfold isTys at q
      cases q1 : isTy S1 t d with
      | none => rw [q1] at q; cases q
      | some x =>
        rw [q1] at q
        cases q
        simp
    obtain ⟨T, e2, e3⟩ := kit_data (K := X.K) hU q'
    have ty := ty_of R1 i1 e2
    rw [k] at ty
    exact ⟨v, .ty U, .type T, .type U, b, rfl, .ty U, ty, e3, h1 _ H1 μ1 x1 R1 rfl⟩
/-- isinstance(a, (T1, T2)) -/
theorem fe_isi2 {t1 t2 : Ty} {U1 U2 : String} {y1 y2 : Str} {kk : Nat} {tp q1 q2 : Pos} (k : G.K = X.K) (hU1 : tyS t1 = some U1) (hU2 : tyS t2 = some U2) (ha : PE X a (lift G ta)) (hs : notStar a = true) (hg : Gl X "isinstance") (hm : X.mg "isinstance" = none)
    (hg1 : Gl X y1) (hm1 : X.mg y1 = none) (hb1 : bootBuiltins y1 = some (.type U1)) (hn1 : y1 ≠ "__name__") (hd1 : (y1 == ("__debug__" : Str)) = false)
    (hg2 : Gl X y2) (hm2 : X.mg y2 = none) (hb2 : bootBuiltins y2 = some (.type U2)) (hn2 : y2 ≠ "__name__") (hd2 : (y2 == ("__debug__" : Str)) = false) :
    PE X (.Call (.Name "isinstance" p) [a, .Tuple [.Name y1 q1, .Name y2 q2] kk tp] [] pos) (lift G fun f S => (ta f S).bind fun x S => isiD [t1, t2] x S) := by
  have h1 : PE X (.Name y1 q1) (tC (.ty U1)) := pe_bltn hg1 hm1 hb1 rfl hn1 hd1
  have h2 : PE X (.Name y2 q2) (tC (.ty U2)) := pe_bltn hg2 hm2 hb2 rfl hn2 hd2
  refine PE.imp (PE.kno (pe_callB call_isiT hg hm PyProof.Rows.boot_isinstance (pa_cons ha (pa_cons (pe_tup (pa_cons h1 (pa_cons h2 pa_nil))) pa_nil) (star_cons hs)) (by decide) (by decide) (star_cons hs))) fun σ H Q ⟨μ, f, S, R, L, z⟩ => ?_
  refine lift_bind R L (Good := GoodE G σ μ H Q) z (fun _ _ _ z => z) (fun z => z) fun d S1 v H1 μ1 e1 x1 R1 i1 h1 => ?_
  refine ⟨by show 2 ≤ sizeLine; decide, fun tp np => ?_⟩
  unfold isiD at h1
  cases q : isTys S1 d [t1, t2] with
  | none => rw [q] at h1; exact h1.elim
  | some b =>
    rw [q] at h1
    have hT : ∃ T, tyN S1 d = some T := by
      unfold isTys at q
      cases q1 : isTy S1 t1 d with
      | none => rw [q1] at q; cases q
      | some x =>
        obtain ⟨T, e2, _⟩ := kit_data (K := X.K) hU1 q1
        exact ⟨T, e2⟩
    obtain ⟨T, hT⟩ := hT
    have e3 : PySem.W.kitAny X.K (.type T) [.type U1, .type U2] = some b := kit_datas (Us := [U1, U2]) hT (by simp [hU1, hU2]) q
    have ty : TyX G.K (upd H1 tp (.tup [.ty U1, .ty U2])) v (.type T) := tyx_upd np (ty_of R1 i1 hT)
    rw [k] at ty
    refine ⟨v, tp, [.ty U1, .ty U2], .type T, _, b, rfl, upd_same, .cons (.ty U1) (.cons (.ty U2) .nil), ty, e3, fun kz => ?_⟩
    rw [← k] at kz
    exact h1 _ _ μ1 (x1.trans (ext_alloc R1.toRep0 np)) (R1.alloc np kz) rfl
end
end SL
set_option Elab.async false
set_option linter.all false
set_option maxRecDepth 100000
set_option maxHeartbeats 1000000
/-! A7: what is walked; targets; comprehensions; statements. -/
namespace SL
open PySem PySem.Spec L2

/-- the walk J yields the items of src, as long as the store is as src says -/
structure Walk (K : PySem.W.Frag) (C : Nat → Addr) (μ₀ : Mu) (H₀ : Hp) (J : L2.It) (src : Src) : Prop where
  len : src.xs.length ≤ sizeLine
  stop : ∀ i μ S H, Grow μ₀ H₀ μ H → Rep0 K C μ S H → Chk src.chk S → src.xs.length ≤ i → J.stop i H
  go : ∀ i μ S H d, Grow μ₀ H₀ μ H → Rep0 K C μ S H → Chk src.chk S → src.xs[i]? = some d → J.go i H
  yld : ∀ i μ S H d x H', Grow μ₀ H₀ μ H → Rep0 K C μ S H → Chk src.chk S → src.xs[i]? = some d → J.yld i H x H' → Ext μ H μ H' ∧ Rep0 K C μ S H' ∧ Is K μ H' d x
theorem yld_same {K : PySem.W.Frag} {C : Nat → Addr} {μ : Mu} {S : Sto} {H H' : Hp} {d : D} {x : V} (R : Rep0 K C μ S H) (e : H' = H) (i : Is K μ H d x) : Ext μ H μ H' ∧ Rep0 K C μ S H' ∧ Is K μ H' d x := by
  subst e
  exact ⟨Ext.refl, R, i⟩
def GoodI (G : Gx) (σ : St) (μ : Mu) (H : Hp) (Q : L2.It → Hp → Prop) : Out Src → Prop
  | .ok src S' => ∀ J H' μ', Ext μ H μ' H' → RepS G.K G.C μ' S' H' → Walk G.K G.C μ' H' J src → Q J H'
  | .exc c fs S' => ∀ H' μ' dd, Ext μ H μ' H' → RepS G.K G.C μ' S' H' → XIs G.K μ' H' fs dd → G.W (.ref (G.C c)) dd σ H'
  | .bad => False
def liftI (G : Gx) (t : FS → Sto → Out Src) : TI := fun σ H Q => ∃ μ f S, RepS G.K G.C μ S H ∧ Sl G.K μ H f σ ∧ GoodI G σ μ H Q (t f S)
section
variable {X : Cx} {G : Gx} {tg e a b : Expr} {ta tb : FS → Sto → Out D} {pos p : Pos}
theorem PI.imp {t t' : TI} (h : PI X tg e t) (w : ∀ σ H Q, t' σ H Q → t σ H Q) : PI X tg e t' :=
  ⟨fun pins s σ H Q I q => h.run pins s σ H Q I (w σ H Q q)⟩
theorem get_map_int {ns : List Int} {i : Nat} {d : D} (h : (ns.map D.int)[i]? = some d) : ∃ n, ns[i]? = some n ∧ d = .int n := by
  rw [List.getElem?_map] at h
  cases e : ns[i]? with
  | none => rw [e] at h; cases h
  | some n => rw [e] at h; cases h; exact ⟨n, rfl, rfl⟩
/-- a value walked: a list, a tuple, a text -/
theorem fi_val (k : G.K = X.K) (he : PE X e (lift G ta)) : PI X tg e (liftI G fun f S => (ta f S).bind fun d S => valD d S) := by
  refine ⟨fun pins s σ H Q I ⟨μ, f, S, R, L, z⟩ => ?_⟩
  have l : lift G ta σ H (fun x H1 => ∃ μ1 S1 d, Ext μ H μ1 H1 ∧ RepS G.K G.C μ1 S1 H1 ∧ Is G.K μ1 H1 d x ∧ GoodI G σ μ1 H1 Q (valD d S1)) := by
    refine lift_bind R L (Good := GoodI G σ μ H Q) z (fun _ _ _ z => z) (fun z => z) fun d S1 v H1 μ1 e1 x1 R1 i1 h1 => ⟨μ1, S1, d, x1, R1, i1, ?_⟩
    cases q : valD d S1 with
    | ok src S' => rw [q] at h1; exact fun J H' μ' x => h1 J H' μ' (x1.trans x)
    | exc c fs S' => rw [q] at h1; exact fun H' μ' dd x => h1 H' μ' dd (x1.trans x)
    | bad => rw [q] at h1; exact h1
  refine thn (he.run pins s σ H _ I l) fun v s1 ⟨x, H1, I1, r1, μ1, S1, d, x1, R1, i1, g⟩ => ?_
  unfold valD at g
  have hK : ∀ {a : Addr} {xs : List V}, SqL G.K H1 a xs → SqL X.K H1 a xs := fun h => by rw [← k]; exact h
  have hT : ∀ {a : Addr} {xs : List V}, SqT G.K H1 a xs → SqT X.K H1 a xs := fun h => by rw [← k]; exact h
  -- a list that stands at a
  have lst : ∀ (a : Addr) (vs : List V), v = .ref a → SqL X.K H1 a vs → Q (Itl X.K a) H1 → wpAny (model X.prog X.w) X.A (pyIter v) (PIE X pins σ tg Q) X.xe s1 := by
    intro a vs ev hq q
    subst ev
    obtain ⟨its, rv, pl, hz⟩ := I1.list hq
    exact wpAny_pyIter_list pl.isList (pi_one (tk := s1.toks) I1 _ (turn_list a _) ⟨_, Heap.get?_push_size _ rfl, rfl, rfl⟩ q)
  have tup : ∀ (a : Addr) (vs : List V), v = .ref a → SqT X.K H1 a vs → Q (Itt X.K a) H1 → wpAny (model X.prog X.w) X.A (pyIter v) (PIE X pins σ tg Q) X.xe s1 := by
    intro a vs ev hq q
    subst ev
    obtain ⟨its, rv, pl, hz⟩ := I1.tuple hq
    exact wpAny_pyIter_tuple (show s1.heap.IsTuple a its.toArray from pl) (pi_one (tk := s1.toks) I1 _ (turn_tuple a _) ⟨_, Heap.get?_push_size _ rfl, rfl, rfl⟩ q)
  cases d with
  | tup ds =>
    obtain ⟨a, vs, rfl, hq, l⟩ := i1
    obtain ⟨_, _, _, hz⟩ := I1.tuple (hT hq)
    refine tup a vs r1 (hT hq) (g _ _ μ1 Ext.refl R1 ⟨by rw [← l.length]; exact hz, fun i μ S H x R c h => ?_, fun i μ S H d x R c h => ?_, fun i μ S H d y H' x R c h w => ?_⟩)
    · exact ⟨vs, by rw [← k]; exact SqT.monoG R1.toRep0 x hq, by rw [l.length]; exact h⟩
    · obtain ⟨v, e1, _⟩ := l.get h
      exact ⟨vs, v, by rw [← k]; exact SqT.monoG R1.toRep0 x hq, e1⟩
    · obtain ⟨v, e1, i1⟩ := l.get h
      have e2 := w.2 vs (by rw [← k]; exact SqT.monoG R1.toRep0 x hq)
      rw [e1] at e2
      cases e2
      exact yld_same R w.1 (i1.monoG R1.toRep0 x)
  | lst ds =>
    obtain ⟨a, vs, rfl, na, hq, l⟩ := i1
    have st : ∀ {μ : Mu} {H : Hp}, Grow μ1 H1 μ H → SqL X.K H a vs := fun x => .inl (.inl (x.kept a _ hq na))
    refine lst a vs r1 (.inl (.inl hq)) (g _ _ μ1 Ext.refl R1 ⟨by rw [← l.length]; exact R1.kz.hl a vs hq, fun i μ S H x R c h => ?_, fun i μ S H d x R c h => ?_, fun i μ S H d y H' x R c h w => ?_⟩)
    · exact ⟨vs, st x, by rw [l.length]; exact h⟩
    · obtain ⟨v, e1, _⟩ := l.get h
      exact ⟨vs, v, st x, e1⟩
    · obtain ⟨v, e1, i1⟩ := l.get h
      have e2 := w.2 vs (st x)
      rw [e1] at e2
      cases e2
      exact yld_same R w.1 (i1.monoG R1.toRep0 x)
  | scr ns =>
    obtain ⟨a, rfl, hq⟩ := i1
    obtain ⟨_, _, _, hz⟩ := I1.list (hK hq.seq)
    have st : ∀ {μ : Mu} {H : Hp}, Grow μ1 H1 μ H → SqL X.K H a (ns.map V.int) := fun x => by rw [← k]; exact (SqF.monoG R1.toRep0 x hq).seq
    refine lst a _ r1 (hK hq.seq) (g _ _ μ1 Ext.refl R1 ⟨by simpa using hz, fun i μ S H x R c h => ?_, fun i μ S H d x R c h => ?_, fun i μ S H d y H' x R c h w => ?_⟩)
    · exact ⟨_, st x, by simpa using h⟩
    · obtain ⟨n, e1, rfl⟩ := get_map_int h
      exact ⟨_, .int n, st x, by rw [List.getElem?_map, e1]; rfl⟩
    · obtain ⟨n, e1, rfl⟩ := get_map_int h
      have e2 := w.2 _ (st x)
      rw [List.getElem?_map, e1] at e2
      cases e2
      exact yld_same R w.1 rfl
  | str z =>
    cases i1
    dsimp only [srcOf] at g
    split at g
    · rename_i hz
      split at hz
      · rename_i hlen
        cases hz
        obtain ⟨t, rfl⟩ := r1
        have q : Q (Its ⟨z.toArray⟩) H1 := by
          refine g _ _ μ1 Ext.refl R1 ⟨by rw [List.length_map, szl]; exact hlen, fun i μ S H x R c h => ?_, fun i μ S H d x R c h => ?_, fun i μ S H d y H' x R c h w => ?_⟩
          · show z.toArray.size ≤ i
            simpa using h
          · show i < z.toArray.size
            have := (List.getElem?_eq_some_iff.mp h).1
            simpa using this
          · obtain ⟨e1, c, e2, rfl⟩ := w
            have e3 : z[i]? = some c := by simpa using e2
            rw [List.getElem?_map, e3] at h
            cases h
            exact yld_same R e1 rfl
        cases ha : (⟨z.toArray⟩ : Str).cps.all (· < 128)
        · exact wpAny_pyIter_wide ha (pi_one (tk := s1.toks) I1 _ (turn_str _ _ t "str_iterator" (.inr rfl)) ⟨_, Heap.get?_push_size _ rfl, rfl, rfl⟩ q)
        · exact wpAny_pyIter_ascii ha (pi_one (tk := s1.toks) I1 _ (turn_str _ _ t "str_ascii_iterator" (.inl rfl)) ⟨_, Heap.get?_push_size _ rfl, rfl, rfl⟩ q)
      · cases hz
    · exact g.elim
  | ref n =>
    dsimp only [srcOf] at g
    cases e0 : S1[n]? with
    | none => simp only [e0] at g; exact g.elim
    | some o =>
      simp only [e0] at g
      cases o with
      | ins _ _ => exact g.elim
      | exc _ _ => exact g.elim
      | dct _ _ => exact g.elim
      | lst ds =>
        obtain ⟨a, rfl, hm, vs, hq, l⟩ := R1.at i1 e0
        have st : ∀ {μ : Mu} {S : Sto} {H : Hp}, Grow μ1 H1 μ H → Rep0 G.K G.C μ S H → Chk [(n, .lst ds)] S → ∃ us, H a = some (.lst us) ∧ IsL G.K μ H ds us := fun {μ S H} x R c => by
          have c1 := c (n, .lst ds) (List.mem_singleton.mpr rfl)
          have hm' : μ.l[n]? = some a := by
            obtain ⟨t, ht⟩ := x.pre
            rw [← ht, List.getElem?_append_left ((List.getElem?_eq_some_iff.mp hm).1)]
            exact hm
          exact R.ob n a _ hm' c1
        refine lst a vs r1 (.inl (.inl hq)) (g _ _ μ1 Ext.refl R1 ⟨by rw [← l.length]; exact R1.kz.hl a vs hq, fun i μ S H x R c h => ?_, fun i μ S H d x R c h => ?_, fun i μ S H d y H' x R c h w => ?_⟩)
        · obtain ⟨us, hu, lu⟩ := st x R c
          exact ⟨us, .inl (.inl hu), by rw [lu.length]; exact h⟩
        · obtain ⟨us, hu, lu⟩ := st x R c
          obtain ⟨v, e1, _⟩ := lu.get h
          exact ⟨us, v, .inl (.inl hu), e1⟩
        · obtain ⟨us, hu, lu⟩ := st x R c
          obtain ⟨v, e1, i1⟩ := lu.get h
          have e2 := w.2 us (.inl (.inl hu))
          rw [e1] at e2
          cases e2
          exact yld_same R w.1 i1
  | _ => exact g.elim
theorem rep_alloc {K : PySem.W.Frag} {C : Nat → Addr} {μ : Mu} {S : Sto} {H : Hp} {p : Addr} {o : HO} (R : Rep0 K C μ S H) (n : H p = none) : Rep0 K C μ S (upd H p o) :=
  ⟨R.nd, R.len, fun k a ob h1 h2 => (R.ob k a ob h1 h2).mono R (ext_alloc R n) (by
    obtain ⟨u, e, _⟩ := (R.ob k a ob h1 h2).kinds
    rw [upd_ne (ne_of_none e n)]), fun a ha => by
      obtain ⟨n1, xs, e⟩ := R.held a ha
      exact ⟨n1, xs, by rw [upd_ne (ne_of_none e n)]; exact e⟩⟩
/-- a list that is walked -/
theorem list_src {K : PySem.W.Frag} {C : Nat → Addr} {μ1 : Mu} {S1 : Sto} {H1 : Hp} {d : D} {v : V} {ds : List D} {s : Src} (R1 : RepS K C μ1 S1 H1) (i1 : Is K μ1 H1 d v) (hi : items S1 d = some ds) (hs : srcOf S1 d = some s) :
    ∃ a vs, v = .ref a ∧ H1 a = some (.lst vs) ∧ s.xs = ds ∧ ds.length ≤ sizeLine ∧ ∀ μ S H, Grow μ1 H1 μ H → Rep0 K C μ S H → Chk s.chk S → ∃ us, H a = some (.lst us) ∧ IsL K μ H ds us := by
  cases d with
  | lst es =>
    cases hi
    cases hs
    obtain ⟨a, vs, rfl, na, hq, l⟩ := i1
    exact ⟨a, vs, rfl, hq, rfl, by rw [← l.length]; exact R1.kz.hl a vs hq, fun μ S H x R c => ⟨vs, x.kept a _ hq na, l.monoG R1.toRep0 x⟩⟩
  | ref n =>
    dsimp only [items, srcOf] at hi hs
    cases e0 : S1[n]? with
    | none => simp only [e0] at hi; cases hi
    | some o =>
      simp only [e0] at hi hs
      cases o with
      | ins _ _ => cases hi
      | exc _ _ => cases hi
      | dct _ _ => cases hi
      | lst es =>
        cases hi
        cases hs
        obtain ⟨a, rfl, hm, vs, hq, l⟩ := R1.at i1 e0
        refine ⟨a, vs, rfl, hq, rfl, by rw [← l.length]; exact R1.kz.hl a vs hq, fun μ S H x R c => ?_⟩
        have c1 := c (n, .lst ds) (List.mem_singleton.mpr rfl)
        have hm' : μ.l[n]? = some a := by
          obtain ⟨t, ht⟩ := x.pre
          rw [← ht, List.getElem?_append_left ((List.getElem?_eq_some_iff.mp hm).1)]
          exact hm
        exact R.ob n a _ hm' c1
  | _ => cases hi
def isTupT : Expr → Bool
  | .Tuple _ _ _ => true
  | _ => false
theorem fi_zip (k : G.K = X.K) (hg : Gl X "zip") (hm : X.mg "zip" = none) (ha : PE X a (lift G ta)) (hb : PE X b (lift G tb)) (hs : notStar a = true) (hs2 : notStar b = true) (ht : isTupT tg = true) : PI X tg (.Call (.Name "zip" p) [a, b] [] pos) (liftI G fun f S => (ta f S).bind fun x S => (tb f S).bind fun y S => zipD x y S) := by
  cases tg <;> try (cases ht)
  refine PI.imp (pi_zip hg hm (pa_cons ha (pa_cons hb pa_nil (star_cons hs2)) (star_cons hs)) (star_cons hs) (by rw [star_cons hs2]; rfl)) fun σ H Q ⟨μ, f, S, R, L, z⟩ => ?_
  refine lift_bind R L (Good := GoodI G σ μ H Q) z (fun _ _ _ z => z) (fun z => z) fun d S1 v H1 μ1 e1 x1 R1 i1 h1 => ?_
  have h1' : GoodI G σ μ1 H1 Q ((tb f S1).bind fun y S => zipD d y S) := by
    cases q : (tb f S1).bind fun y S => zipD d y S with
    | ok src S' => rw [q] at h1; exact fun J H' μ' x => h1 J H' μ' (x1.trans x)
    | exc c fs S' => rw [q] at h1; exact fun H' μ' dd x => h1 H' μ' dd (x1.trans x)
    | bad => rw [q] at h1; exact h1
  refine lift_bind R1 (L.mono R.toRep0 x1) (Good := GoodI G σ μ1 H1 Q) h1' (fun _ _ _ z => z) (fun z => z) fun d2 S2 v2 H2 μ2 e2 x2 R2 i2 h2 => ?_
  have i1 := i1.mono R1.toRep0 x2
  unfold zipD at h2
  cases q1 : items S2 d with
  | none => simp only [q1] at h2; exact h2.elim
  | some ds =>
    cases q2 : items S2 d2 with
    | none => simp only [q1, q2] at h2; exact h2.elim
    | some es =>
      cases q3 : srcOf S2 d with
      | none => simp only [q1, q2, q3] at h2; exact h2.elim
      | some s =>
        cases q4 : srcOf S2 d2 with
        | none => simp only [q1, q2, q3, q4] at h2; exact h2.elim
        | some t =>
          simp only [q1, q2, q3, q4] at h2
          obtain ⟨a, vs, rfl, hq, ex, hz, wa⟩ := list_src R2 i1 q1 q3
          obtain ⟨b, us, rfl, hq2, ey, hz2, wb⟩ := list_src R2 i2 q2 q4
          rw [ex, ey] at h2
          have zl : ((ds.zip es).map fun p => D.tup [p.1, p.2]).length = min ds.length es.length := by simp
          have zg : ∀ {i : Nat} {d : D}, ((ds.zip es).map fun p => D.tup [p.1, p.2])[i]? = some d → ∃ u w, ds[i]? = some u ∧ es[i]? = some w ∧ d = .tup [u, w] := fun {i d} h => by
            rw [List.getElem?_map] at h
            cases q : (ds.zip es)[i]? with
            | none => rw [q] at h; cases h
            | some p =>
              rw [q] at h
              cases h
              obtain ⟨h1, h2⟩ := List.getElem?_zip_eq_some.mp q
              exact ⟨_, _, h1, h2, rfl⟩
          have ck1 : ∀ {S : Sto}, Chk (s.chk ++ t.chk) S → Chk s.chk S ∧ Chk t.chk S := fun c => ⟨fun p hp => c p (List.mem_append.mpr (.inl hp)), fun p hp => c p (List.mem_append.mpr (.inr hp))⟩
          refine ⟨a, b, vs, us, rfl, .inl (.inl hq), .inl (.inl hq2), h2 _ H2 μ2 x2 R2 ⟨by rw [zl]; omega, fun i μ S H x R c h => ?_, fun i μ S H d x R c h => ?_, fun i μ S H d y H' x R c h w => ?_⟩⟩
          · obtain ⟨xs, hx, lx⟩ := wa μ S H x R (ck1 c).1
            obtain ⟨ys, hy, ly⟩ := wb μ S H x R (ck1 c).2
            rw [zl] at h
            exact ⟨xs, ys, .inl (.inl hx), .inl (.inl hy), by rw [lx.length, ly.length]; omega⟩
          · obtain ⟨xs, hx, lx⟩ := wa μ S H x R (ck1 c).1
            obtain ⟨ys, hy, ly⟩ := wb μ S H x R (ck1 c).2
            obtain ⟨u, w, hu, hw, rfl⟩ := zg h
            obtain ⟨v1, e1, _⟩ := lx.get hu
            obtain ⟨v2, e2, _⟩ := ly.get hw
            exact ⟨xs, ys, v1, v2, .inl (.inl hx), .inl (.inl hy), e1, e2⟩
          · obtain ⟨xs, hx, lx⟩ := wa μ S H x R (ck1 c).1
            obtain ⟨ys, hy, ly⟩ := wb μ S H x R (ck1 c).2
            obtain ⟨u, w', hu, hw, rfl⟩ := zg h
            obtain ⟨v1, e1, j1⟩ := lx.get hu
            obtain ⟨v2, e2, j2⟩ := ly.get hw
            obtain ⟨T, x1, y1, rfl, nT, rfl, f1, f2⟩ := w
            have g1 := f1 xs (.inl (.inl hx))
            have g2 := f2 ys (.inl (.inl hy))
            rw [e1] at g1
            rw [e2] at g2
            cases g1
            cases g2
            have xa : Ext μ H μ (upd H T (.tup [v1, v2])) := ext_alloc R nT
            exact ⟨xa, rep_alloc R nT, ⟨T, [v1, v2], rfl, .inl (.inl upd_same), v1, [v2], rfl, j1.mono R xa, v2, [], rfl, j2.mono R xa, rfl⟩⟩
theorem range_walk {K : PySem.W.Frag} {C : Nat → Addr} {μ : Mu} {H : Hp} {lo hi : Int} {s : Src} (h : rangeD lo hi = some s) : (-(2 ^ 62) ≤ lo ∧ lo < 2 ^ 62 ∧ -(2 ^ 62) ≤ hi ∧ hi < 2 ^ 62) ∧ Walk K C μ H (Itr lo (hi - lo).toNat) s := by
  unfold rangeD at h
  split at h
  · rename_i hc
    cases h
    have e : (upFrom lo (hi - lo).toNat).length = (hi - lo).toNat := by simp [upFrom]
    refine ⟨by omega, ⟨by rw [e, szl]; show _ ≤ 16777216; omega, fun i μ S H x R c h => ?_, fun i μ S H d x R c h => ?_, fun i μ S H d y H' x R c h w => ?_⟩⟩
    · show (hi - lo).toNat ≤ i
      rw [← e]; exact h
    · show i < (hi - lo).toNat
      rw [← e]; exact (List.getElem?_eq_some_iff.mp h).1
    · obtain ⟨e1, rfl⟩ := w
      refine yld_same R e1 ?_
      have hi' : i < (hi - lo).toNat := by rw [← e]; exact (List.getElem?_eq_some_iff.mp h).1
      have e2 : (upFrom lo (hi - lo).toNat)[i]? = some (.int (lo + (i : Int))) := by
        unfold upFrom
        rw [List.getElem?_map, List.getElem?_range hi']
        rfl
      have h' : (upFrom lo (hi - lo).toNat)[i]? = some d := h
      rw [e2] at h'
      cases h'
      rfl
  · cases h
theorem fi_range1 (hg : Gl X "range") (hm : X.mg "range" = none) (ha : PE X a (lift G ta)) (hs : notStar a = true) : PI X tg (.Call (.Name "range" p) [a] [] pos) (liftI G fun f S => (ta f S).bind fun x S => rng1D x S) := by
  refine PI.imp (pi_range1 hg hm (pa_cons ha pa_nil (star_cons hs)) (star_cons hs)) fun σ H Q ⟨μ, f, S, R, L, z⟩ => ?_
  refine lift_bind R L (Good := GoodI G σ μ H Q) z (fun _ _ _ z => z) (fun z => z) fun d S1 v H1 μ1 e1 x1 R1 i1 h1 => ?_
  cases d with
  | int i =>
    cases i1
    dsimp only [rng1D] at h1
    cases q : rangeD 0 i with
    | none => rw [q] at h1; exact h1.elim
    | some s =>
      rw [q] at h1
      obtain ⟨hb, w⟩ := range_walk (K := G.K) (C := G.C) (μ := μ1) (H := H1) q
      refine ⟨i, rfl, hb.2.2.1, hb.2.2.2, h1 _ H1 μ1 x1 R1 ?_⟩
      rw [Int.sub_zero] at w
      exact w
  | _ => exact h1.elim
theorem fi_range2 (hg : Gl X "range") (hm : X.mg "range" = none) (ha : PE X a (lift G ta)) (hb : PE X b (lift G tb)) (hs : notStar a = true) (hs2 : notStar b = true) : PI X tg (.Call (.Name "range" p) [a, b] [] pos) (liftI G fun f S => (ta f S).bind fun x S => (tb f S).bind fun y S => rng2D x y S) := by
  refine PI.imp (pi_range2 hg hm (pa_cons ha (pa_cons hb pa_nil (star_cons hs2)) (star_cons hs)) (by rw [star_cons hs, star_cons hs2]; rfl) (star_cons hs2)) fun σ H Q ⟨μ, f, S, R, L, z⟩ => ?_
  refine lift_bind R L (Good := GoodI G σ μ H Q) z (fun _ _ _ z => z) (fun z => z) fun d S1 v H1 μ1 e1 x1 R1 i1 h1 => ?_
  have h1' : GoodI G σ μ1 H1 Q ((tb f S1).bind fun y S => rng2D d y S) := by
    cases q : (tb f S1).bind fun y S => rng2D d y S with
    | ok src S' => rw [q] at h1; exact fun J H' μ' x => h1 J H' μ' (x1.trans x)
    | exc c fs S' => rw [q] at h1; exact fun H' μ' dd x => h1 H' μ' dd (x1.trans x)
    | bad => rw [q] at h1; exact h1
  refine lift_bind R1 (L.mono R.toRep0 x1) (Good := GoodI G σ μ1 H1 Q) h1' (fun _ _ _ z => z) (fun z => z) fun d2 S2 v2 H2 μ2 e2 x2 R2 i2 h2 => ?_
  cases d with
  | int i =>
    cases d2 with
    | int j =>
      cases i1; cases i2
      dsimp only [rng2D] at h2
      cases q : rangeD i j with
      | none => rw [q] at h2; exact h2.elim
      | some s =>
        rw [q] at h2
        obtain ⟨hb, w⟩ := range_walk (K := G.K) (C := G.C) (μ := μ2) (H := H2) q
        exact ⟨i, j, rfl, hb, h2 _ H2 μ2 x2 R2 w⟩
    | _ => exact h2.elim
  | _ => exact h2.elim

end
end SL
set_option Elab.async false
set_option linter.all false
set_option maxRecDepth 100000
set_option maxHeartbeats 1000000
/-! A8: targets, comprehensions. -/
namespace SL
open PySem PySem.Spec L2

/-! ### targets -/
def Off (sl : List Nat) (σ σ' : St) : Prop := σ'.length = σ.length ∧ ∀ j, j ∉ sl → σ'[j]? = σ[j]?
theorem Off.refl {sl : List Nat} {σ : St} : Off sl σ σ := ⟨rfl, fun _ _ => rfl⟩
theorem Off.set {sl : List Nat} {σ σ' : St} {i : Nat} {x : Option V} (h : Off sl σ σ') (hi : i ∈ sl) : Off sl σ (σ'.set i x) :=
  ⟨by rw [List.length_set]; exact h.1, fun j hj => by rw [List.getElem?_set_ne (show i ≠ j from fun e => hj (by rw [← e]; exact hi))]; exact h.2 j hj⟩
theorem wipe_get (σ : St) (j : Nat) : ∀ vs : List Nat, (L2.wipe σ vs)[j]? = if j ∈ vs then (if j < σ.length then some none else none) else σ[j]?
  | [] => by simp [L2.wipe]
  | v :: vs => by
    unfold L2.wipe
    by_cases h : j = v
    · subst h
      rw [if_pos List.mem_cons_self]
      by_cases hl : j < (L2.wipe σ vs).length
      · rw [List.getElem?_set_self hl, if_pos (by rw [← wipe_length σ vs]; exact hl)]
      · rw [List.getElem?_eq_none (by simpa using hl), if_neg (by rw [← wipe_length σ vs]; exact hl)]
    · rw [List.getElem?_set_ne (Ne.symm h), wipe_get σ j vs]
      by_cases hj : j ∈ vs
      · rw [if_pos hj, if_pos (List.mem_cons_of_mem _ hj)]
      · rw [if_neg hj, if_neg (by simp [h, hj])]
theorem wipe_off {σ σ2 : St} {sl vs : List Nat} (h : Off sl (L2.wipe σ vs) σ2) (hs : ∀ i ∈ sl, i ∈ vs) : L2.wipe σ2 vs = L2.wipe σ vs := by
  apply List.ext_getElem?
  intro j
  rw [wipe_get, wipe_get]
  have e : σ2.length = σ.length := by rw [h.1, wipe_length]
  by_cases hj : j ∈ vs
  · rw [if_pos hj, if_pos hj, e]
  · rw [if_neg hj, if_neg hj, h.2 j (fun z => hj (hs j z)), wipe_get, if_neg hj]

def tgSlots : Tg → List Nat
  | .name i => [i]
  | .tup is => is
/-- several names, one after another -/
def gNames (is : List Nat) : TGs := match is with
  | [] => gNil
  | i :: is => gCons (gName i) (gNames is)
theorem gNames_ok {Q : St → Hp → Prop} {K : PySem.W.Frag} {μ : Mu} {H : Hp} (sl : List Nat) : ∀ (is : List Nat) (ds : List D) (vs : List V) (f f' : FS) (σ σ₀ : St), (∀ i ∈ is, i ∈ sl) → IsL K μ H ds vs → setAll f is ds = some f' → Sl K μ H f σ → Off sl σ₀ σ → (∀ σ', Sl K μ H f' σ' → Off sl σ₀ σ' → Q σ' H) → gNames is vs σ H Q
  | [], ds, vs, f, f', σ, σ₀, hs, l, e, L, o, q => by
    cases ds with
    | nil =>
      cases (show vs = [] from l)
      cases e
      exact ⟨rfl, q σ L o⟩
    | cons _ _ => cases e
  | i :: is, ds, vs, f, f', σ, σ₀, hs, l, e, L, o, q => by
    cases ds with
    | nil => cases e
    | cons d ds =>
      obtain ⟨v, r, rfl, i1, i2⟩ := l
      exact ⟨v, r, rfl, gNames_ok sl is ds r (setAt f i d) f' _ σ₀ (fun j hj => hs j (List.mem_cons_of_mem _ hj)) i2 e (L.set i1) (o.set (hs i List.mem_cons_self)) q⟩
def gTg (K : PySem.W.Frag) : Tg → TG
  | .name i => gName i
  | .tup is => fun v σ H Q => gTup K is.length (gNames is) v σ H Q ∨ gLst K is.length (gNames is) v σ H Q
theorem setAll_len : ∀ {is : List Nat} {ds : List D} {f f' : FS}, setAll f is ds = some f' → ds.length = is.length
  | [], [], _, _, _ => rfl
  | [], _ :: _, _, _, e => by cases e
  | _ :: _, [], _, _, e => by cases e
  | i :: is, d :: ds, f, f', e => by
    have e' : setAll (setAt f i d) is ds = some f' := e
    rw [List.length_cons, List.length_cons, setAll_len e']
theorem gTg_ok {K : PySem.W.Frag} {C : Nat → Addr} {μ : Mu} {H : Hp} {S : Sto} {tg : Tg} {d : D} {v : V} {f f' : FS} {σ : St} {Q : St → Hp → Prop} (R : Rep0 K C μ S H) (L : Sl K μ H f σ) (i : Is K μ H d v) (e : bindTg S tg d f = some f') (q : ∀ σ', Sl K μ H f' σ' → Off (tgSlots tg) σ σ' → Q σ' H) : gTg K tg v σ H Q := by
  cases tg with
  | name j =>
    cases e
    exact q _ (L.set i) (Off.refl.set (List.mem_singleton.mpr rfl))
  | tup is =>
    dsimp only [bindTg] at e
    cases e1 : seqOf S d with
    | none => rw [e1] at e; cases e
    | some ds =>
      rw [e1] at e
      obtain ⟨a, vs, rfl, hq, l⟩ := R.seq i e1
      have hl : vs.length = is.length := by rw [l.length]; exact setAll_len e
      have g := gNames_ok (Q := Q) is is ds vs f f' σ σ (fun _ h => h) l e L Off.refl q
      rcases hq with hq | hq
      · exact .inr ⟨a, vs, rfl, hq, hl, g⟩
      · exact .inl ⟨a, vs, rfl, hq, hl, g⟩
section
variable {X : Cx} {G : Gx} {pos : Pos}
/-- the names that a target stores -/
def tgNames : List Expr → Option (List Str)
  | [] => some []
  | .Name x _ :: r => match tgNames r with
    | some xs => some (x :: xs)
    | none => none
  | _ => none
theorem names_each {env : Env} : ∀ {es : List Expr} {xs : List Str}, tgNames es = some xs → (assignEach es env).length = es.length ∧ (assignEach es env).findIdx? (·.1) = none
  | [], xs, h => ⟨rfl, rfl⟩
  | .Name x p :: r, xs, h => by
    unfold tgNames at h
    cases e : tgNames r with
    | none => rw [e] at h; cases h
    | some ys =>
      obtain ⟨h1, h2⟩ := names_each (env := env) e
      refine ⟨?_, ?_⟩
      · show (assignEach r env).length + 1 = r.length + 1
        rw [h1]
      · show List.findIdx? (·.1) ((false, assign (.Name x p) env) :: assignEach r env) = none
        rw [List.findIdx?_cons]
        simp [h2]
/-- the name x may be stored, as slot i -/
def TgOk (X : Cx) (i : Nat) (x : Str) : Prop := X.N[i]? = some x ∧ Loc X.env.scope x ∧ (X.fn x = true ∨ X.env.scope.names.lookup x = some .local)
def TgsOk (X : Cx) : List Nat → List Str → Prop
  | [], [] => True
  | i :: is, x :: xs => TgOk X i x ∧ TgsOk X is xs
  | _, _ => False
theorem pg_names (hN : X.N.Nodup) : ∀ {es : List Expr} {xs : List Str} {is : List Nat}, tgNames es = some xs → TgsOk X is xs → PGs X es (gNames is) ∧ es.length = is.length
  | [], xs, is, h, hi => by
    cases h
    cases is with
    | nil => exact ⟨pgs_nil, rfl⟩
    | cons _ _ => exact hi.elim
  | .Name x p :: r, xs, is, h, hi => by
    unfold tgNames at h
    cases e : tgNames r with
    | none => rw [e] at h; cases h
    | some ys =>
      rw [e] at h
      cases h
      cases is with
      | nil => exact hi.elim
      | cons i is =>
        obtain ⟨⟨e2, e3, e4⟩, h2⟩ := hi
        obtain ⟨g1, g2⟩ := pg_names hN e h2
        exact ⟨pgs_cons (pg_name hN e2 e3 e4) g1, by simp [g2]⟩
def TgIs (X : Cx) : Tg → Expr → Prop
  | .name i, .Name x _ => TgOk X i x
  | .tup is, .Tuple es _ _ => ∃ xs, tgNames es = some xs ∧ TgsOk X is xs
  | _, _ => False
/-- a target of a text -/
theorem pg_tg {tg : Tg} {e : Expr} (k : G.K = X.K) (hc : X.calm = true) (hN : X.N.Nodup) (h : TgIs X tg e) : PG X e (gTg G.K tg) := by
  cases tg with
  | name i =>
    cases e with
    | Name x p =>
      obtain ⟨h1, h2, h3⟩ := h
      exact pg_name hN h1 h2 h3
    | _ => exact h.elim
  | tup is =>
    cases e with
    | Tuple es kk p =>
      obtain ⟨xs, h1, h2⟩ := h
      obtain ⟨g, h4⟩ := pg_names hN h1 h2
      obtain ⟨n1, n2⟩ := names_each (env := X.env) h1
      have t1 : PG X (.Tuple es kk p) (gTup X.K is.length (gNames is)) := pg_tup hc g (n1.trans h4) n2
      have t2 : PG X (.Tuple es kk p) (gLst X.K is.length (gNames is)) := pg_lst hc g (n1.trans h4) n2
      refine ⟨fun pins s σ H v u Q I r q => ?_⟩
      rw [k] at q
      rcases q with q | q
      · exact t1.run pins s σ H v u Q I r q
      · exact t2.run pins s σ H v u Q I r q
    | _ => exact h.elim
theorem PG.kno {e : Expr} {g : TG} (h : PG X e g) : PG X e (fun v σ H Q => KZ X.K H → g v σ H Q) :=
  ⟨fun pins s σ H v u Q I r q => h.run pins s σ H v u Q I r (q (kz_of I))⟩

/-! ### comprehensions -/
def Gx.calm (G : Gx) : Gx := ⟨G.K, G.C, fun _ _ _ _ => False⟩
/-- a comprehension's test -/
def GoodC (Q : Bool → Hp → Prop) (K : PySem.W.Frag) (C : Nat → Addr) (μ : Mu) (H : Hp) : Out (Option D) → Prop
  | .ok none S' => ∀ H' μ', Ext μ H μ' H' → RepS K C μ' S' H' → Q true H'
  | .ok (some (.bl b)) S' => ∀ H' μ', Ext μ H μ' H' → RepS K C μ' S' H' → Q b H'
  | _ => False
def CondOk (G : Gx) (tt : TT) (tc : FS → Sto → Out (Option D)) : Prop := ∀ (σ : St) (H : Hp) (Q : Bool → Hp → Prop) μ S f, RepS G.K G.C μ S H → Sl G.K μ H f σ → GoodC Q G.K G.C μ H (tc f S) → tt σ H Q
theorem cond_none : CondOk G tYes (fun _ S => .ok none S) := fun σ H Q μ S f R L g => g H μ Ext.refl R
theorem cond_some {t : FS → Sto → Out D} : CondOk G (liftT G.calm t) (fun f S => (t f S).bind fun d S => .ok (some d) S) := fun σ H Q μ S f R L g => by
  refine ⟨μ, f, S, R, L, ?_⟩
  dsimp only at g
  cases e : t f S with
  | ok d S' =>
    rw [e] at g
    cases d with
    | bl b => exact g
    | _ => exact g.elim
  | exc c fs S' => rw [e] at g; exact g.elim
  | bad => rw [e] at g; exact g.elim
/-- a turn of a comprehension -/
theorem compL_chk {c : List (Nat × Ob)} {st : D → Sto → Out (Option D)} {xs : List D} {S S' : Sto} {r : List D} (h : compL c st xs S = .ok r S') : Chk c S := by
  cases xs with
  | nil =>
    unfold compL at h
    split at h
    · assumption
    · cases h
  | cons x xs =>
    unfold compL at h
    split at h
    · assumption
    · cases h
theorem liftI_bind {t : FS → Sto → Out Src} {σ : St} {H : Hp} {μ : Mu} {Q : L2.It → Hp → Prop} {S : Sto} {f : FS} (R : RepS G.K G.C μ S H) (L : Sl G.K μ H f σ) {β : Type} {k : Src → Sto → Out β} {Good : Out β → Prop}
    (h : Good ((t f S).bind k)) (hx : ∀ c fs S', Good (.exc c fs S') → ∀ H' μ' dd, Ext μ H μ' H' → RepS G.K G.C μ' S' H' → XIs G.K μ' H' fs dd → G.W (.ref (G.C c)) dd σ H') (hb : ¬ Good .bad)
    (go : ∀ src S' J H' μ', Ext μ H μ' H' → RepS G.K G.C μ' S' H' → Walk G.K G.C μ' H' J src → Good (k src S') → Q J H') : liftI G t σ H Q := by
  refine ⟨μ, f, S, R, L, ?_⟩
  cases e : t f S with
  | ok d S' =>
    rw [e] at h
    exact fun J H' μ' x R' w => go d S' J H' μ' x R' w h
  | exc c fs S' =>
    rw [e] at h
    exact hx c fs S' h
  | bad =>
    rw [e] at h
    exact hb h
theorem drop_get {α : Type} {xs : List α} {i : Nat} {x : α} {r : List α} (h : xs.drop i = x :: r) : xs[i]? = some x ∧ xs.drop (i + 1) = r := by
  constructor
  · have := List.getElem?_drop (xs := xs) (i := i) (j := 0)
    rw [h] at this
    simpa using this.symm
  · have e : (xs.drop i).drop 1 = xs.drop (i + 1) := by rw [List.drop_drop]
    rw [← e, h]
    rfl
/-- a comprehension under way: the list at p is being made -/
structure Mid (K : PySem.W.Frag) (C : Nat → Addr) (μ₁ : Mu) (H₁ : Hp) (p : Addr) (μ : Mu) (S : Sto) (H : Hp) (acc : List V) : Prop where
  pre : μ₁.l <+: μ.l
  keep : ∀ b o, H₁ b = some o → b ∉ μ₁.l → H b = some o
  new : ∀ b ∈ μ.l, b ∉ μ₁.l → H₁ b = none
  held : μ.r = p :: μ₁.r
  rep : Rep0 K C μ S H
  at_ : H p = some (.lst acc)
section
variable {K : PySem.W.Frag} {C : Nat → Addr} {μ₁ μ μ' : Mu} {H₁ H H' : Hp} {p : Addr} {S S' : Sto} {acc : List V}
theorem Mid.grow (m : Mid K C μ₁ H₁ p μ S H acc) (n : H₁ p = none) : Grow μ₁ H₁ μ H :=
  ⟨m.pre, fun a o h k => m.keep a o h fun z => k (.inl z), fun a o h k z => by
    rcases z with z | z
    · have := m.new a z fun q => k (.inl q)
      rw [h] at this; cases this
    · rw [m.held] at z
      rcases List.mem_cons.mp z with z | z
      · rw [z, n] at h; cases h
      · exact k (.inr z)⟩
theorem Mid.start (R : Rep0 K C μ₁ S H₁) (n : H₁ p = none) : Mid K C μ₁ H₁ p (μ₁.hold p) S (upd H₁ p (.lst [])) [] := by
  have g : Grow μ₁ H₁ (μ₁.hold p) (upd H₁ p (.lst [])) := ⟨List.prefix_refl _, fun a o h _ => by rw [upd_ne (ne_of_none h n)]; exact h, fun a o h k z => by
    rcases z with z | z
    · exact k (.inl z)
    · rcases List.mem_cons.mp z with z | z
      · rw [z, n] at h; cases h
      · exact k (.inr z)⟩
  refine ⟨List.prefix_refl _, fun b o h _ => by rw [upd_ne (ne_of_none h n)]; exact h, fun b m k => absurd m k, rfl, ⟨R.nd, R.len, fun k a ob e1 e2 => (R.ob k a ob e1 e2).monoG R g ?_, fun a ha => ?_⟩, upd_same⟩
  · obtain ⟨u, e, _⟩ := (R.ob k a ob e1 e2).kinds
    rw [upd_ne (ne_of_none e n)]
  · rcases List.mem_cons.mp ha with z | z
    · subst z
      exact ⟨fun m => R.notin n (.inl m), [], upd_same⟩
    · obtain ⟨n1, xs, e⟩ := R.held a z
      exact ⟨n1, xs, by rw [upd_ne (ne_of_none e n)]; exact e⟩
theorem Mid.ext (m : Mid K C μ₁ H₁ p μ S H acc) (x : Ext μ H μ' H') (R' : Rep0 K C μ' S' H') : Mid K C μ₁ H₁ p μ' S' H' acc := by
  have np : p ∉ μ.l := (m.rep.held p (by rw [m.held]; exact List.mem_cons_self)).1
  refine ⟨m.pre.trans x.pre, fun b o h n => ?_, fun b hb n => ?_, x.held.trans m.held, R', x.keep p _ m.at_ np⟩
  · refine x.keep b o (m.keep b o h n) fun z => ?_
    have := m.new b z n
    rw [h] at this; cases this
  · by_cases hm : b ∈ μ.l
    · exact m.new b hm n
    · cases q : H₁ b with
      | none => rfl
      | some o =>
        have z := x.new b hb hm
        rw [m.keep b o q n] at z; cases z
theorem Mid.add (m : Mid K C μ₁ H₁ p μ S H acc) (n : H₁ p = none) (v : V) : Mid K C μ₁ H₁ p μ S (upd H p (.lst (acc ++ [v]))) (acc ++ [v]) ∧ Grow μ H μ (upd H p (.lst (acc ++ [v]))) := by
  have hp : p ∈ μ.r := by rw [m.held]; exact List.mem_cons_self
  have np : p ∉ μ.l := (m.rep.held p hp).1
  have g : Grow μ H μ (upd H p (.lst (acc ++ [v]))) := ⟨List.prefix_refl _, fun a o h k => by rw [upd_ne (show a ≠ p from fun e => k (.inr (by rw [e]; exact hp)))]; exact h, fun a o h k => k⟩
  refine ⟨⟨m.pre, fun b o h k => ?_, m.new, m.held, ⟨m.rep.nd, m.rep.len, fun k a ob e1 e2 => (m.rep.ob k a ob e1 e2).monoG m.rep g ?_, fun a ha => ?_⟩, upd_same⟩, g⟩
  · rw [upd_ne (show b ≠ p from fun e => by rw [e, n] at h; cases h)]
    exact m.keep b o h k
  · rw [upd_ne (show a ≠ p from fun e => np (by rw [← e]; exact List.mem_of_getElem? e1))]
  · obtain ⟨n1, xs, e⟩ := m.rep.held a ha
    by_cases z : a = p
    · subst z
      exact ⟨n1, _, upd_same⟩
    · exact ⟨n1, xs, by rw [upd_ne z]; exact e⟩
theorem Mid.done {S₁ : Sto} (R : Rep0 K C μ₁ S₁ H₁) (m : Mid K C μ₁ H₁ p μ S H acc) (n : H₁ p = none) : Ext μ₁ H₁ ⟨μ.l, μ₁.r⟩ H ∧ Rep0 K C ⟨μ.l, μ₁.r⟩ S H ∧ p ∉ (⟨μ.l, μ₁.r⟩ : Mu) ∧ Grow μ H ⟨μ.l, μ₁.r⟩ H := by
  have sub : ∀ a, a ∈ μ₁.r → a ∈ μ.r := fun a h => by rw [m.held]; exact List.mem_cons_of_mem _ h
  have g : Grow μ H ⟨μ.l, μ₁.r⟩ H := ⟨List.prefix_refl _, fun _ _ h _ => h, fun a o h k z => by
    rcases z with z | z
    · exact k (.inl z)
    · exact k (.inr (sub a z))⟩
  refine ⟨⟨m.pre, rfl, m.keep, m.new⟩, ⟨m.rep.nd, m.rep.len, fun k a ob e1 e2 => (m.rep.ob k a ob e1 e2).monoG m.rep g rfl, fun a ha => m.rep.held a (sub a ha)⟩, fun z => ?_, g⟩
  rcases z with z | z
  · exact (m.rep.held p (by rw [m.held]; exact List.mem_cons_self)).1 z
  · exact R.notin n (.inr z)
end
/-- the reading of a comprehension -/
theorem comp_read {tI : FS → Sto → Out Src} {tg : Tg} {tt : TT} {tc : FS → Sto → Out (Option D)} {te : FS → Sto → Out D} {vs : List Nat} (hcond : CondOk G tt tc) (hsl : ∀ i ∈ tgSlots tg, i ∈ vs) (σ : St) (H : Hp) (Q : VK)
    (z : lift G (fun f S => (tI f S).bind fun src S => compD tg tc te vs f src S) σ H Q) : tLc (liftI G tI) (fun v σ H Q => KZ G.K H → gTg G.K tg v σ H Q) tt (lift G.calm te) vs σ H (SL.kno G.K Q) := by
  obtain ⟨μ, f, S, R, L, z⟩ := z
  refine liftI_bind R L (Good := GoodE G σ μ H Q) z (fun _ _ _ z => z) (fun z => z) fun src S1 J H1 μ1 x1 R1 w h1 => ?_
  unfold compD at h1
  cases q : compL src.chk (stepD tg tc te (wipe f vs)) src.xs S1 with
  | exc c fs S' => rw [q] at h1; exact h1.elim
  | bad => rw [q] at h1; exact h1.elim
  | ok rs S2 =>
    rw [q] at h1
    intro p np
    have L1 : Sl G.K μ1 H1 f σ := L.mono R.toRep0 x1
    refine ⟨fun i m H => m = src.xs.length - i ∧ i ≤ src.xs.length ∧ ∃ μ S acc ds r, Mid G.K G.C μ1 H1 p μ S H acc ∧ IsL G.K μ H ds acc ∧ ds.length ≤ i ∧ compL src.chk (stepD tg tc te (wipe f vs)) (src.xs.drop i) S = .ok r S2 ∧ rs = ds ++ r,
      ⟨src.xs.length, by simp, Nat.zero_le _, μ1.hold p, S1, [], [], rs, Mid.start R1.toRep0 np, rfl, Nat.zero_le _, q, rfl⟩, fun i m H2 hw => ?_⟩
    obtain ⟨em, hle, μ2, S3, acc, ds, r, md, ld, hdi, hcl, hrs⟩ := hw
    have ck := compL_chk hcl
    have gr := md.grow np
    cases hdr : src.xs.drop i with
    | nil =>
      have hi : src.xs.length ≤ i := by
        have := congrArg List.length hdr
        rw [List.length_drop] at this
        simp at this
        omega
      refine .inl ⟨w.stop i μ2 S3 H2 gr md.rep ck hi, fun kz => ?_⟩
      rw [hdr] at hcl
      unfold compL at hcl
      rw [if_pos ck] at hcl
      cases hcl
      rw [List.append_nil] at hrs
      subst hrs
      obtain ⟨x2, R2, n2, g2⟩ := Mid.done R1.toRep0 md np
      exact h1 _ H2 _ (x1.trans x2) ⟨R2, kz⟩ ⟨p, acc, rfl, n2, md.at_, ld.monoG md.rep g2⟩
    | cons d rest =>
      obtain ⟨hget, hdr2⟩ := drop_get hdr
      have hi : i < src.xs.length := (List.getElem?_eq_some_iff.mp hget).1
      rw [hdr] at hcl
      unfold compL at hcl
      rw [if_pos ck] at hcl
      refine .inr ⟨w.go i μ2 S3 H2 d gr md.rep ck hget, fun H' => ∃ μ S acc ds r, Mid G.K G.C μ1 H1 p μ S H' acc ∧ IsL G.K μ H' ds acc ∧ ds.length ≤ i + 1 ∧ compL src.chk (stepD tg tc te (wipe f vs)) (src.xs.drop (i + 1)) S = .ok r S2 ∧ rs = ds ++ r, fun H' hN => ⟨m - 1, by omega, by omega, by omega, hN⟩, fun x H' hy => ?_⟩
      obtain ⟨ex, rp, ix⟩ := w.yld i μ2 S3 H2 d x H' gr md.rep ck hget hy
      have ld := ld.monoG md.rep ex.grow
      have gr := gr.trans ex.grow
      have md := md.ext ex rp
      intro kz
      have RS : RepS G.K G.C μ2 S3 H' := ⟨md.rep, kz⟩
      have L2' : Sl G.K μ2 H' (wipe f vs) (L2.wipe σ vs) := Sl.wipe (Sl.monoG R1.toRep0 gr L1) vs
      cases hb : bindTg S3 tg d (wipe f vs) with
      | none =>
        simp only [stepD, hb] at hcl
        cases hcl
      | some f' =>
        refine gTg_ok md.rep L2' ix hb fun σ' Ls off => ⟨wipe_off off hsl, ?_⟩
        simp only [stepD, hb] at hcl
        refine hcond σ' H' _ μ2 S3 f' RS Ls ?_
        -- behind the test: the element
        have elem : ∀ S4 H4 μ4, Ext μ2 H' μ4 H4 → RepS G.K G.C μ4 S4 H4 → (match (te f' S4).bind fun r S => (.ok (some r) S : Out (Option D)) with
            | .ok o S1 => match compL src.chk (stepD tg tc te (wipe f vs)) rest S1 with
              | .ok r S2 => (.ok (o.toList ++ r) S2 : Out (List D))
              | _ => .bad
            | _ => .bad) = .ok r S2 → lift G.calm te σ' H4 fun y H5 => ∃ acc, H5 p = some (.lst acc) ∧ acc.length < sizeLine ∧ ∃ μ S ac ds r, Mid G.K G.C μ1 H1 p μ S (upd H5 p (.lst (acc ++ [y]))) ac ∧ IsL G.K μ (upd H5 p (.lst (acc ++ [y]))) ds ac ∧ ds.length ≤ i + 1 ∧ compL src.chk (stepD tg tc te (wipe f vs)) (src.xs.drop (i + 1)) S = .ok r S2 ∧ rs = ds ++ r := by
          intro S4 H4 μ4 x4 R4 hcl
          refine ⟨μ4, f', S4, R4, Ls.mono RS.toRep0 x4, ?_⟩
          cases ht : te f' S4 with
          | exc c fs S' => rw [ht] at hcl; cases hcl
          | bad => rw [ht] at hcl; cases hcl
          | ok y S5 =>
            rw [ht] at hcl
            simp only [Out.ok_bind] at hcl
            cases hc2 : compL src.chk (stepD tg tc te (wipe f vs)) rest S5 with
            | exc c fs S' => rw [hc2] at hcl; cases hcl
            | bad => rw [hc2] at hcl; cases hcl
            | ok r2 S6 =>
              rw [hc2] at hcl
              cases hcl
              intro v H5 μ5 x5 R5 iv
              have m5 := (md.ext x4 R4.toRep0).ext x5 R5.toRep0
              obtain ⟨m6, g6⟩ := m5.add np v
              have l5 : IsL G.K μ5 H5 ds acc := (ld.mono RS.toRep0 x4).mono R4.toRep0 x5
              have la : acc.length = ds.length := ld.length
              have hlen := w.len
              refine ⟨acc, m5.at_, by omega, μ5, S5, _, ds ++ [y], r2, m6, ?_, by simp; omega, by rw [hdr2]; exact hc2, by rw [hrs]; simp⟩
              exact (l5.append (show IsL G.K μ5 H5 [y] [v] from ⟨v, [], rfl, iv, rfl⟩)).monoG R5.toRep0 g6
        cases htc : tc f' S3 with
        | exc c fs S' => rw [htc] at hcl; cases hcl
        | bad => rw [htc] at hcl; cases hcl
        | ok o S4 =>
          rw [htc] at hcl
          simp only [Out.ok_bind] at hcl
          cases o with
          | none =>
            intro H4 μ4 x4 R4
            rw [if_pos rfl]
            exact elem S4 H4 μ4 x4 R4 hcl
          | some b =>
            cases b with
            | bl b =>
              intro H4 μ4 x4 R4
              cases b with
              | true =>
                rw [if_pos rfl]
                exact elem S4 H4 μ4 x4 R4 hcl
              | false =>
                rw [if_neg (by decide)]
                dsimp only at hcl
                cases hc2 : compL src.chk (stepD tg tc te (wipe f vs)) rest S4 with
                | exc c fs S' => rw [hc2] at hcl; cases hcl
                | bad => rw [hc2] at hcl; cases hcl
                | ok r2 S6 =>
                  rw [hc2] at hcl
                  cases hcl
                  exact ⟨μ4, S4, acc, ds, r2, md.ext x4 R4.toRep0, ld.mono RS.toRep0 x4, by omega, by rw [hdr2]; exact hc2, by rw [hrs]; simp⟩
            | _ => cases hcl
end
end SL
set_option Elab.async false
set_option linter.all false
set_option maxRecDepth 100000
set_option maxHeartbeats 1000000
/-! A9: comprehensions as values; statements. -/
namespace SL
open PySem PySem.Spec L2
section
variable {X : Cx} {G : Gx} {pos spos : Pos}
theorem fe_comp {elt tg iter : Expr} {ifs : List Expr} {scope : Scope} {own : List (Str × Nat)} {tI : FS → Sto → Out Src} {itg : Tg} {tt : TT} {tc : FS → Sto → Out (Option D)} {te : FS → Sto → Out D} (k : G.K = X.K) (hc : X.calm = true) (hN : X.N.Nodup) (hi : PI X tg iter (liftI G tI)) (ok : BlkOk X.N X.env.scope scope own)
    (hg : ∀ (s : Shared) (H : Hp) (C : Addr) (cl : List (Str × Addr)) (fp : List Addr), PG (X.blk s H scope (compEnvC scope cl C X.env) fp) tg (gTg G.K itg)) (ht : ∀ (s : Shared) (H : Hp) (C : Addr) (cl : List (Str × Addr)) (fp : List Addr), PTs (X.blk s H scope (compEnvC scope cl C X.env) fp) ifs tt) (hcond : CondOk G tt tc)
    (he : ∀ (s : Shared) (H : Hp) (C : Addr) (cl : List (Str × Addr)) (fp : List Addr), PE (X.blk s H scope (compEnvC scope cl C X.env) fp) elt (lift G.calm te)) (hset : notSet iter = true) (hsl : ∀ i ∈ tgSlots itg, i ∈ own.map (·.2)) :
    PE X (.ListComp elt [⟨tg, iter, ifs, 0⟩] scope pos) (lift G fun f S => (tI f S).bind fun src S => compD itg tc te (own.map (·.2)) f src S) := by
  refine PE.imp (PE.kno (pe_lc (g := fun v σ H Q => KZ X.K H → gTg G.K itg v σ H Q) hc hN hi ok (fun s H C cl fp => PG.kno (hg s H C cl fp)) ht he (set_ok hset))) fun σ H Q z => ?_
  rw [← k]
  exact comp_read hcond hsl σ H Q z
theorem PS.kno {st : Stmt} {t : TS} (h : PS X st t) : PS X st (fun D σ H => t { D with nx := fun σ' H' => KZ X.K H' → D.nx σ' H' } σ H) :=
  ⟨fun pins s σ H D I q => thn (h.run pins s σ H _ I q) fun fl s' z => by
    cases fl with
    | next => obtain ⟨σ', H', I', q⟩ := z; exact ⟨σ', H', I', q (kz_of I')⟩
    | brk => exact z
    | cont => exact z
    | ret u => exact z⟩

/-! ### statements -/
def GoodS (G : Gx) (D : Ends) (μ : Mu) (H : Hp) : SO → Prop
  | .nx f S => ∀ σ' H' μ', Ext μ H μ' H' → RepS G.K G.C μ' S H' → Sl G.K μ' H' f σ' → D.nx σ' H'
  | .ret d S => ∀ v H' μ', Ext μ H μ' H' → RepS G.K G.C μ' S H' → Is G.K μ' H' d v → D.rt v H'
  | .brk f S => ∀ σ' H' μ', Ext μ H μ' H' → RepS G.K G.C μ' S H' → Sl G.K μ' H' f σ' → D.bk σ' H'
  | .ct f S => ∀ σ' H' μ', Ext μ H μ' H' → RepS G.K G.C μ' S H' → Sl G.K μ' H' f σ' → D.ct σ' H'
  | .exc c fs f S => ∀ σ' H' μ' dd, Ext μ H μ' H' → RepS G.K G.C μ' S H' → Sl G.K μ' H' f σ' → XIs G.K μ' H' fs dd → G.W (.ref (G.C c)) dd σ' H'
  | .bad => False
def liftS (G : Gx) (t : FS → Sto → SO) : TS := fun D σ H => ∃ μ f S, RepS G.K G.C μ S H ∧ Sl G.K μ H f σ ∧ GoodS G D μ H (t f S)
theorem GoodS.mono {D : Ends} {μ μ' : Mu} {H H' : Hp} {o : SO} (x : Ext μ H μ' H') (h : GoodS G D μ H o) : GoodS G D μ' H' o := by
  cases o with
  | nx f S => exact fun σ H2 μ2 x2 => h σ H2 μ2 (x.trans x2)
  | brk f S => exact fun σ H2 μ2 x2 => h σ H2 μ2 (x.trans x2)
  | ct f S => exact fun σ H2 μ2 x2 => h σ H2 μ2 (x.trans x2)
  | ret f S => exact fun σ H2 μ2 x2 => h σ H2 μ2 (x.trans x2)
  | exc c fs f S => exact fun σ H2 μ2 dd x2 => h σ H2 μ2 dd (x.trans x2)
  | bad => exact h
/-- an expression ahead of the rest of a statement -/
theorem s_bind {t : FS → Sto → Out D} {Q : VK} {σ : St} {μ : Mu} {H : Hp} {S : Sto} {f : FS} {D' : Ends} {k : D → Sto → SO} (R : RepS G.K G.C μ S H) (L : Sl G.K μ H f σ) (h : GoodS G D' μ H ((t f S).so f k))
    (go : ∀ d S' v H' μ', t f S = .ok d S' → Ext μ H μ' H' → RepS G.K G.C μ' S' H' → Is G.K μ' H' d v → Sl G.K μ' H' f σ → GoodS G D' μ' H' (k d S') → Q v H') : lift G t σ H Q := by
  refine ⟨μ, f, S, R, L, ?_⟩
  cases e : t f S with
  | ok d S' =>
    rw [e] at h
    exact fun v H' μ' x R' i => go d S' v H' μ' e x R' i (L.mono R.toRep0 x) (GoodS.mono x h)
  | exc c fs S' =>
    rw [e] at h
    exact fun H' μ' dd x R' xi => h σ H' μ' dd x R' (L.mono R.toRep0 x) xi
  | bad => rw [e] at h; exact h
theorem sA_bind {t : FS → Sto → Out (List D)} {Q : List V → Hp → Prop} {σ : St} {μ : Mu} {H : Hp} {S : Sto} {f : FS} {D' : Ends} {k : List D → Sto → SO} (R : RepS G.K G.C μ S H) (L : Sl G.K μ H f σ) (h : GoodS G D' μ H ((t f S).so f k))
    (go : ∀ d S' v H' μ', t f S = .ok d S' → Ext μ H μ' H' → RepS G.K G.C μ' S' H' → IsL G.K μ' H' d v → Sl G.K μ' H' f σ → GoodS G D' μ' H' (k d S') → Q v H') : liftA G t σ H Q := by
  refine ⟨μ, f, S, R, L, ?_⟩
  cases e : t f S with
  | ok d S' =>
    rw [e] at h
    exact fun v H' μ' x R' i => go d S' v H' μ' e x R' i (L.mono R.toRep0 x) (GoodS.mono x h)
  | exc c fs S' =>
    rw [e] at h
    exact fun H' μ' dd x R' xi => h σ H' μ' dd x R' (L.mono R.toRep0 x) xi
  | bad => rw [e] at h; exact h
theorem sT_bind {t : FS → Sto → Out D} {Q : Bool → Hp → Prop} {σ : St} {μ : Mu} {H : Hp} {S : Sto} {f : FS} {D' : Ends} {k : D → Sto → SO} (R : RepS G.K G.C μ S H) (L : Sl G.K μ H f σ) (h : GoodS G D' μ H ((t f S).so f k)) (hk : ∀ d S, (∀ b, d ≠ .bl b) → k d S = .bad)
    (go : ∀ b S' H' μ', t f S = .ok (.bl b) S' → Ext μ H μ' H' → RepS G.K G.C μ' S' H' → Sl G.K μ' H' f σ → GoodS G D' μ' H' (k (.bl b) S') → Q b H') : liftT G t σ H Q := by
  refine ⟨μ, f, S, R, L, ?_⟩
  cases e : t f S with
  | ok d S' =>
    rw [e] at h
    cases d with
    | bl b => exact fun H' μ' x R' => go b S' H' μ' e x R' (L.mono R.toRep0 x) (GoodS.mono x h)
    | _ => simp only [Out.so_ok] at h; rw [hk _ _ (fun b z => by cases z)] at h; exact h
  | exc c fs S' =>
    rw [e] at h
    exact fun H' μ' dd x R' xi => h σ H' μ' dd x R' (L.mono R.toRep0 x) xi
  | bad => rw [e] at h; exact h
theorem sI_bind {t : FS → Sto → Out Src} {Q : L2.It → Hp → Prop} {σ : St} {μ : Mu} {H : Hp} {S : Sto} {f : FS} {D' : Ends} {k : Src → Sto → SO} (R : RepS G.K G.C μ S H) (L : Sl G.K μ H f σ) (h : GoodS G D' μ H ((t f S).so f k))
    (go : ∀ src S' J H' μ', t f S = .ok src S' → Ext μ H μ' H' → RepS G.K G.C μ' S' H' → Walk G.K G.C μ' H' J src → Sl G.K μ' H' f σ → GoodS G D' μ' H' (k src S') → Q J H') : liftI G t σ H Q := by
  refine ⟨μ, f, S, R, L, ?_⟩
  cases e : t f S with
  | ok d S' =>
    rw [e] at h
    exact fun v H' μ' x R' i => go d S' v H' μ' e x R' i (L.mono R.toRep0 x) (GoodS.mono x h)
  | exc c fs S' =>
    rw [e] at h
    exact fun H' μ' dd x R' xi => h σ H' μ' dd x R' (L.mono R.toRep0 x) xi
  | bad => rw [e] at h; exact h

variable {e : Expr} {ta tb : FS → Sto → Out D} {st : Stmt} {rest : List Stmt} {t u : FS → Sto → SO}
theorem asg_read {tg : Tg} (D' : Ends) (σ : St) (H : Hp) (z : liftS G (fun f S => (ta f S).so f fun d S => asgD tg f d S) D' σ H) : tAsg (lift G ta) (gTg G.K tg) D' σ H := by
  obtain ⟨μ, f, S, R, L, z⟩ := z
  refine s_bind R L z fun d S1 v H1 μ1 e1 x1 R1 i1 L1 g => ?_
  unfold asgD at g
  cases e2 : bindTg S1 tg d f with
  | none => rw [e2] at g; exact g.elim
  | some f' =>
    rw [e2] at g
    exact gTg_ok R1.toRep0 L1 i1 e2 fun σ' L' _ => g σ' H1 μ1 Ext.refl R1 L'
theorem fs_asg {tg : Tg} {et : Expr} (k : G.K = X.K) (he : PE X e (lift G ta)) (hg : PG X et (gTg G.K tg)) (hs : swapsWithSole [et] e spos.line X.env = pure false) (hw : swappedStores [et] e X.env = pure none) (h1 : (assignEach [et] X.env).map (·.2) = [assign et X.env]) :
    PS X (.Assign [et] e spos) (liftS G fun f S => (ta f S).so f fun d S => asgD tg f d S) :=
  PS.imp (ps_asg he hg hs hw h1) fun D' σ H z => asg_read D' σ H z
/-- name = [..] in place -/
theorem fs_setLc {i : Nat} {y : Str} {py : Pos} {elt tg iter : Expr} {ifs : List Expr} {scope : Scope} {own : List (Str × Nat)} {tI : FS → Sto → Out Src} {itg : Tg} {tt : TT} {tc : FS → Sto → Out (Option D)} {te : FS → Sto → Out D} (k : G.K = X.K) (hc : X.calm = true) (hN : X.N.Nodup) (hy : X.N[i]? = some y) (hyl : X.env.scope.names.lookup y = some .local)
    (hsw : swapsWith (.ListComp elt [⟨tg, iter, ifs, 0⟩] scope pos) (some (.Name y py)) spos.line X.env = pure true) (hi : PI X tg iter (liftI G tI)) (ok : BlkOk X.N X.env.scope scope own)
    (hg : ∀ (s : Shared) (H : Hp) (C : Addr) (cl : List (Str × Addr)) (fp : List Addr), PG (X.blk s H scope (compEnvC scope cl C X.env) fp) tg (gTg G.K itg)) (ht : ∀ (s : Shared) (H : Hp) (C : Addr) (cl : List (Str × Addr)) (fp : List Addr), PTs (X.blk s H scope (compEnvC scope cl C X.env) fp) ifs tt) (hcond : CondOk G tt tc)
    (he : ∀ (s : Shared) (H : Hp) (C : Addr) (cl : List (Str × Addr)) (fp : List Addr), PE (X.blk s H scope (compEnvC scope cl C X.env) fp) elt (lift G.calm te)) (hset : notSet iter = true) (hsl : ∀ i ∈ tgSlots itg, i ∈ own.map (·.2)) :
    PS X (.Assign [.Name y py] (.ListComp elt [⟨tg, iter, ifs, 0⟩] scope pos) spos) (liftS G fun f S => ((tI f S).bind fun src S => compD itg tc te (own.map (·.2)) f src S).so f fun d S => asgD (.name i) f d S) := by
  refine PS.imp (PS.kno (ps_setLc (g := fun v σ H Q => KZ X.K H → gTg G.K itg v σ H Q) hc hN hy hyl hsw hi ok (fun s H C cl fp => PG.kno (hg s H C cl fp)) ht he (set_ok hset))) fun D' σ H z => ?_
  have z1 := asg_read D' σ H z
  unfold tAsg at z1 ⊢
  have z2 := comp_read hcond hsl σ H _ z1
  have e1 : (fun (v : V) (σ : St) (H : Hp) (Q : St → Hp → Prop) => KZ G.K H → gTg G.K itg v σ H Q) = fun v σ H Q => KZ X.K H → gTg G.K itg v σ H Q := by rw [k]
  rw [e1] at z2
  have e2 : (SL.kno G.K fun x H1 => gTg G.K (Tg.name i) x σ H1 D'.nx) = SL.kno X.K fun x H1 => gTg G.K (Tg.name i) x σ H1 D'.nx := by rw [k]
  rw [e2] at z2
  exact z2

theorem fs_nil : PSs X [] (liftS G fun f S => .nx f S) := PSs.imp pss_nil fun D' σ H ⟨μ, f, S, R, L, z⟩ => z σ H μ Ext.refl R L
theorem fs_cons (h1 : PS X st (liftS G t)) (h2 : PSs X rest (liftS G u)) : PSs X (st :: rest) (liftS G fun f S => thenS u (t f S)) := by
  refine PSs.imp (pss_cons h1 h2) fun D' σ H ⟨μ, f, S, R, L, z⟩ => ⟨μ, f, S, R, L, ?_⟩
  have z : GoodS G D' μ H (thenS u (t f S)) := z
  cases e : t f S with
  | nx f' S' =>
    rw [e] at z
    exact fun σ' H' μ' x R' L' => ⟨μ', f', S', R', L', GoodS.mono x z⟩
  | brk f' S' => rw [e] at z; exact z
  | ct f' S' => rw [e] at z; exact z
  | ret f' S' => rw [e] at z; exact z
  | exc c fs f' S' => rw [e] at z; exact z
  | bad => rw [e] at z; exact z
theorem fs_exp (he : PE X e (lift G ta)) (hs : swapsWith e none spos.line X.env = pure false) : PS X (.Expr e spos) (liftS G fun f S => (ta f S).so f fun _ S => .nx f S) :=
  PS.imp (ps_expr he hs) fun D' σ H ⟨μ, f, S, R, L, z⟩ => s_bind R L z fun d S1 v H1 μ1 e1 x1 R1 i1 L1 g => g σ H1 μ1 Ext.refl R1 L1
theorem fs_ret (he : PE X e (lift G ta)) : PS X (.Return (some e) spos) (liftS G fun f S => (ta f S).so f fun d S => .ret d S) :=
  PS.imp (ps_ret he) fun D' σ H ⟨μ, f, S, R, L, z⟩ => s_bind R L z fun d S1 v H1 μ1 e1 x1 R1 i1 L1 g => g v H1 μ1 Ext.refl R1 i1
theorem fs_pass : PS X (.Pass spos) (liftS G fun f S => .nx f S) := PS.imp ps_pass fun D' σ H ⟨μ, f, S, R, L, z⟩ => z σ H μ Ext.refl R L
theorem fs_brk : PS X (.Break spos) (liftS G fun f S => .brk f S) := PS.imp ps_break fun D' σ H ⟨μ, f, S, R, L, z⟩ => z σ H μ Ext.refl R L
theorem fs_cont : PS X (.Continue spos) (liftS G fun f S => .ct f S) := PS.imp ps_continue fun D' σ H ⟨μ, f, S, R, L, z⟩ => z σ H μ Ext.refl R L
theorem fs_if {c : Expr} {a b : List Stmt} (hc : PT X c (liftT G ta)) (h1 : PSs X a (liftS G t)) (h2 : PSs X b (liftS G u)) : PS X (.If c a b spos) (liftS G fun f S => (ta f S).so f fun x S => ifD t u f x S) := by
  refine PS.imp (ps_if hc h1 h2) fun D' σ H ⟨μ, f, S, R, L, z⟩ => ?_
  refine sT_bind R L z (fun d S hb => ?_) fun b S1 H1 μ1 e1 x1 R1 L1 g => ?_
  · cases d <;> first | rfl | exact absurd rfl (hb _)
  · cases b with
    | true => rw [if_pos rfl]; exact ⟨μ1, f, S1, R1, L1, g⟩
    | false => rw [if_neg (by decide)]; exact ⟨μ1, f, S1, R1, L1, g⟩
/-! ### while -/
theorem whl_of {f : FS} {S : Sto} {n : Nat} {r : SO} (h : whileN ta t n f S = some r) : whl ta t f S = r := by
  have mono : ∀ (n m : Nat) (f : FS) (S : Sto) (r : SO), n ≤ m → whileN ta t n f S = some r → whileN ta t m f S = some r := by
    intro n
    induction n with
    | zero => intro m f S r _ h; cases h
    | succ n ih =>
      intro m f S r hm h
      cases m with
      | zero => omega
      | succ m =>
        unfold whileN at h ⊢
        split at h
        · split at h
          · exact ih m _ _ _ (by omega) h
          · exact ih m _ _ _ (by omega) h
          · exact h
          · exact h
        · exact h
        · exact h
        · exact h
  have ex : ∃ n r, whileN ta t n f S = some r := ⟨n, r, h⟩
  unfold whl
  rw [dif_pos ex]
  have h2 := Classical.choose_spec (Classical.choose_spec ex)
  have a := mono _ (max n (Classical.choose ex)) f S _ (Nat.le_max_left _ _) h
  have b := mono _ (max n (Classical.choose ex)) f S _ (Nat.le_max_right _ _) h2
  rw [a] at b
  exact (Option.some.inj b).symm
theorem fs_while {c : Expr} {body : List Stmt} (hp : PassesOwn (model X.prog X.w) X.A X.env X.xe) (hc : PT X c (liftT G ta)) (hb : PSs X body (liftS G t)) : PS X (.While c body [] spos) (liftS G fun f S => whl ta t f S) := by
  refine PS.imp (ps_while hp hc hb) fun D' σ H ⟨μ, f, S, R, L, z⟩ => ?_
  have z : GoodS G D' μ H (whl ta t f S) := z
  have ex : ∃ n r, whileN ta t n f S = some r := by
    unfold whl at z
    split at z
    · assumption
    · exact z.elim
  obtain ⟨n, r, hr⟩ := ex
  rw [whl_of hr] at z
  refine ⟨fun m σ H => ∃ μ f S r, RepS G.K G.C μ S H ∧ Sl G.K μ H f σ ∧ whileN ta t m f S = some r ∧ GoodS G D' μ H r, ⟨n, μ, f, S, r, R, L, hr, z⟩, fun m σ H hw => ?_⟩
  obtain ⟨μ, f, S, r, R, L, hr, z⟩ := hw
  cases m with
  | zero => cases hr
  | succ m =>
    unfold whileN at hr
    refine ⟨μ, f, S, R, L, ?_⟩
    cases e : ta f S with
    | bad => rw [e] at hr; cases hr; exact z.elim
    | exc c fs S' =>
      rw [e] at hr
      cases hr
      exact fun H' μ' dd x R' xi => z σ H' μ' dd x R' (L.mono R.toRep0 x) xi
    | ok d S1 =>
      rw [e] at hr
      cases d with
      | bl b =>
        intro H1 μ1 x1 R1
        have L1 := L.mono R.toRep0 x1
        cases b with
        | false =>
          cases hr
          rw [if_neg (by decide)]
          exact z σ H1 μ1 x1 R1 L1
        | true =>
          rw [if_pos rfl]
          refine ⟨fun σ H => ∃ μ f S r, RepS G.K G.C μ S H ∧ Sl G.K μ H f σ ∧ whileN ta t m f S = some r ∧ GoodS G D' μ H r, fun σ' H' w => ⟨m, Nat.lt_succ_self m, w⟩, μ1, f, S1, R1, L1, ?_⟩
          dsimp only at hr
          have z1 := GoodS.mono x1 z
          cases e2 : t f S1 with
          | nx f' S' => rw [e2] at hr; exact fun σ' H' μ' x R' L' => ⟨μ', f', S', r, R', L', hr, GoodS.mono x z1⟩
          | ct f' S' => rw [e2] at hr; exact fun σ' H' μ' x R' L' => ⟨μ', f', S', r, R', L', hr, GoodS.mono x z1⟩
          | brk f' S' => rw [e2] at hr; cases hr; exact z1
          | ret f' S' => rw [e2] at hr; cases hr; exact z1
          | exc c fs f' S' => rw [e2] at hr; cases hr; exact z1
          | bad => rw [e2] at hr; cases hr; exact z1
      | _ => cases hr; exact z.elim
/-! ### for -/
theorem forL_chk {c : List (Nat × Ob)} {bd : D → FS → Sto → SO} {xs : List D} {f : FS} {S : Sto} {D' : Ends} {μ : Mu} {H : Hp} (h : GoodS G D' μ H (forL c bd xs f S)) : Chk c S := by
  cases xs with
  | nil =>
    unfold forL at h
    split at h
    · assumption
    · exact h.elim
  | cons x xs =>
    unfold forL at h
    split at h
    · assumption
    · exact h.elim
theorem fs_for {tg iter : Expr} {itg : Tg} {body : List Stmt} {tI : FS → Sto → Out Src} (kG : G.K = X.K) (hp : PassesOwn (model X.prog X.w) X.A X.env X.xe) (hc : X.calm = true) (hi : PI X tg iter (liftI G tI)) (hg : PG X tg (gTg G.K itg)) (hb : PSs X body (liftS G t)) (hset : notSet iter = true) :
    PS X (.For tg iter body [] spos) (liftS G fun f S => (tI f S).so f fun src S => forL src.chk (forB itg t) src.xs f S) := by
  refine PS.imp (ps_for hp hc hi (PG.kno hg) hb (set_ok hset)) fun D' σ H ⟨μ, f, S, R, L, z⟩ => ?_
  refine sI_bind R L z fun src S1 J H1 μ1 e1 x1 R1 w L1 g => ?_
  refine ⟨fun i m σ H => m = src.xs.length - i ∧ i ≤ src.xs.length ∧ ∃ μ f S, Ext μ1 H1 μ H ∧ RepS G.K G.C μ S H ∧ Sl G.K μ H f σ ∧ GoodS G D' μ H (forL src.chk (forB itg t) (src.xs.drop i) f S), ⟨src.xs.length, by simp, Nat.zero_le _, μ1, f, S1, Ext.refl, R1, L1, g⟩, fun i m σ H hw => ?_⟩
  obtain ⟨em, hle, μ2, f2, S2, x2, R2, L2', g2⟩ := hw
  have ck := forL_chk g2
  have gr := x2.grow
  cases hdr : src.xs.drop i with
  | nil =>
    have hi : src.xs.length ≤ i := by
      have := congrArg List.length hdr
      rw [List.length_drop] at this
      simp at this
      omega
    refine .inl ⟨w.stop i μ2 S2 H gr R2.toRep0 ck hi, ?_⟩
    rw [hdr] at g2
    unfold forL at g2
    rw [if_pos ck] at g2
    exact g2 σ H μ2 Ext.refl R2 L2'
  | cons d rest =>
    obtain ⟨hget, hdr2⟩ := drop_get hdr
    have hi : i < src.xs.length := (List.getElem?_eq_some_iff.mp hget).1
    rw [hdr] at g2
    unfold forL at g2
    rw [if_pos ck] at g2
    refine .inr ⟨w.go i μ2 S2 H d gr R2.toRep0 ck hget, fun σ H => ∃ μ f S, Ext μ1 H1 μ H ∧ RepS G.K G.C μ S H ∧ Sl G.K μ H f σ ∧ GoodS G D' μ H (forL src.chk (forB itg t) (src.xs.drop (i + 1)) f S), fun σ' H' w' => ⟨src.xs.length - (i + 1), by omega, rfl, by omega, w'⟩, fun x H' hy => ?_⟩
    obtain ⟨ex, rp, ix⟩ := w.yld i μ2 S2 H d x H' gr R2.toRep0 ck hget hy
    intro kz
    rw [← kG] at kz
    have L2' := L2'.mono R2.toRep0 ex
    have R2 : RepS G.K G.C μ2 S2 H' := ⟨rp, kz⟩
    have x2 := x2.trans ex
    have g2 := GoodS.mono ex g2
    unfold forB at g2
    cases eb : bindTg S2 itg d f2 with
    | none => simp only [eb] at g2; exact g2.elim
    | some f' =>
      simp only [eb] at g2
      refine gTg_ok R2.toRep0 L2' ix eb fun σ' Ls _ => ⟨μ2, f', S2, R2, Ls, ?_⟩
      cases e2 : t f' S2 with
      | nx f' S' => rw [e2] at g2; exact fun σ' H' μ' x R' L' => ⟨μ', f', S', x2.trans x, R', L', by rw [hdr2]; exact GoodS.mono x g2⟩
      | ct f' S' => rw [e2] at g2; exact fun σ' H' μ' x R' L' => ⟨μ', f', S', x2.trans x, R', L', by rw [hdr2]; exact GoodS.mono x g2⟩
      | brk f' S' => rw [e2] at g2; exact g2
      | ret f' S' => rw [e2] at g2; exact g2
      | exc c fs f' S' => rw [e2] at g2; exact g2
      | bad => rw [e2] at g2; exact g2
end
end SL
set_option Elab.async false
set_option linter.all false
set_option maxRecDepth 100000
set_option maxHeartbeats 1000000
/-! B0: stores into lists, op=, raise, try. -/
namespace SL
open PySem PySem.Spec L2
section
variable {X : Cx} {G : Gx} {pos spos : Pos} {C : Nat → Addr} {e o i : Expr} {ta tb tc : FS → Sto → Out D}
/-! ### o[i] = e -/
def rSetD : TSet := fun x y v H Q => rSetL x y v H Q ∨ ∃ a H', x = .ref a ∧ DPut H a y v H' ∧ Q H'
theorem set_D (hu : X.A.units + 1 < cLine) : PSet X rSetD := by
  intro pins s σ H o i v ov iv u Q I ro ri rv h
  rcases h with h | ⟨a, H', rfl, g, q⟩
  · exact set_list pins s σ H o i v ov iv u Q I ro ri rv h
  · cases ro
    exact d_setItem hu I g ri rv fun s' I' => ⟨H', I', q⟩
theorem putD_ok {K : PySem.W.Frag} {μ : Mu} {H : Hp} {S S' : Sto} {d j w : D} {x y v : V} {Q : Hp → Prop} (R : RepS K C μ S H) (i1 : Is K μ H d x) (i2 : Is K μ H j y) (i3 : Is K μ H w v) (h : putD d j w S = .ok () S')
    (q : ∀ H' , Ext μ H μ H' → (KZ K H' → RepS K C μ S' H') → Q H') : rSetD x y v H Q := by
  unfold putD at h
  cases d with
  | ref k =>
    dsimp only at h
    cases e1 : S[k]? with
    | none => rw [e1] at h; cases h
    | some ob =>
      rw [e1] at h
      cases ob with
      | lst ds =>
        dsimp only at h
        unfold putL at h
        cases j with
        | int j =>
          cases i2
          dsimp only at h
          cases e2 : placeOf j ds.length with
          | none => rw [e2] at h; cases h
          | some m =>
            rw [e2] at h
            cases h
            obtain ⟨a, rfl, hm, vs, hv, l⟩ := R.at i1 e1
            have ha : a ∈ μ.l := List.mem_of_getElem? hm
            refine .inl ⟨a, vs, j, m, rfl, rfl, hv, by rw [l.length]; exact e2, q _ (ext_write ha) fun z => R.write hm z ⟨_, upd_same, ?_⟩⟩
            exact (l.set (i3) m).mono R.toRep0 (ext_write ha)
        | _ => cases h
      | dct ks ds =>
        dsimp only at h
        unfold putM at h
        cases e2 : dkOf j with
        | none => rw [e2] at h; cases h
        | some kk =>
          rw [e2] at h
          dsimp only at h
          split at h
          · rename_i hl
            cases h
            obtain ⟨a, rfl, hm, kvs, hv, ek, l⟩ := R.at i1 e1
            have ha : a ∈ μ.l := List.mem_of_getElem? hm
            cases dkOf_is i2 e2
            obtain ⟨p1, p2⟩ := kvs_put (k := kk) i3 ek l
            refine .inr ⟨a, _, rfl, DPut.k hv (by rw [kvs_len ek, szl]; exact hl), q _ (ext_write ha) fun z => R.write hm z ⟨_, upd_same, p1, ?_⟩⟩
            exact p2.mono R.toRep0 (ext_write ha)
          · cases h
      | ins _ _ => cases h
      | exc _ _ => cases h
  | _ => cases h
theorem putD_ne (d j w : D) (S : Sto) : ∀ c fs S', putD d j w S ≠ .exc c fs S' := by
  intro c fs S' h
  unfold putD putL putM at h
  repeat' (first | cases h | split at h)
/-- behind a store the layer's invariant again -/
def knoSet (K : PySem.W.Frag) (t : TSet) : TSet := fun o i v H Q => t o i v H fun H' => KZ K H' → Q H'
theorem kno_set {t : TSet} (h : PSet X t) : PSet X (knoSet X.K t) := fun pins s σ H o i v ov iv u Q I ro ri rv q =>
  thn (h pins s σ H o i v ov iv u _ I ro ri rv q) fun _ s' ⟨H', I', z⟩ => ⟨H', I', z (kz_of I')⟩
theorem so_ok_of {D' : Ends} {μ : Mu} {H : Hp} {f : FS} {p : Out Unit} {k : Unit → Sto → SO} (ne : ∀ c fs S', p ≠ .exc c fs S') (h : GoodS G D' μ H (p.so f k)) : ∃ S', p = .ok () S' ∧ GoodS G D' μ H (k () S') := by
  cases p with
  | ok u S' => exact ⟨S', rfl, h⟩
  | exc c fs S' => exact absurd rfl (ne c fs S')
  | bad => exact h.elim
theorem fs_put {p : Pos} (k : G.K = X.K) (hu : X.A.units + 1 < cLine) (he : PE X e (lift G ta)) (ho : PE X o (lift G tb)) (hi : PE X i (lift G tc)) (hs : swapsWithSole [.Subscript o i p] e spos.line X.env = pure false) (hsl : notSlice i = true) (hw : swappedStores [.Subscript o i p] e X.env = pure none) :
    PS X (.Assign [.Subscript o i p] e spos) (liftS G fun f S => (ta f S).so f fun d S => (tb f S).so f fun o S => (tc f S).so f fun i S => (putD o i d S).so f fun _ S => .nx f S) := by
  have hsub : ∀ v, assign (.Subscript o i p) X.env v = (do
      let ov ← holding [v] (eval o X.env)
      let iv ← holding [v, ov] (eval i X.env)
      standAt p
      holding [v, ov, iv] (setItem ov iv v)
      release [v, ov, iv] []) := by
    intro v
    cases i <;> first | rfl | cases hsl
  refine PS.imp (ps_asg he (pg_sub ho hi (kno_set (set_D hu)) hsub) hs hw) fun D' σ H ⟨μ, f, S, R, L, z⟩ => ?_
  refine s_bind R L z fun d S1 v H1 μ1 e1 x1 R1 i1 L1 g => ?_
  refine s_bind R1 L1 g fun d2 S2 v2 H2 μ2 e2 x2 R2 i2 L2' g2 => ?_
  refine s_bind R2 L2' g2 fun d3 S3 v3 H3 μ3 e3 x3 R3 i3 L3 g3 => ?_
  obtain ⟨S4, e4, g4⟩ := so_ok_of (putD_ne _ _ _ _) g3
  refine putD_ok R3 (i2.mono R2.toRep0 x3) i3 ((i1.mono R1.toRep0 x2).mono R2.toRep0 x3) e4 fun H' x4 w kz => ?_
  rw [← k] at kz
  exact g4 σ H' μ3 x4 (w kz) (L3.mono R3.toRep0 x4)

/-! ### op= -/
def opA : Bop → Operator
  | .add => .Add
  | .sub => .Sub
  | .mul => .Mult
  | .mod => .Mod
  | .fdiv => .FloorDiv
  | .pow => .Pow
def rAug (op : Bop) : TIp := fun x y H Q => ∃ i j k, x = .int i ∧ y = .int j ∧ augD op (.int i) (.int j) [] = .ok (.int k) [] ∧ Q (.int k) H
theorem ip_aug (op : Bop) : PIp X (opA op) (rAug op) := by
  intro pins s σ H x y v u Q I rx ry ⟨i, j, k, e1, e2, e3, q⟩
  cases op with
  | add => cases e3; exact ip_add pins s σ H x y v u Q I rx ry ⟨i, j, e1, e2, q⟩
  | sub => cases e3; exact ip_sub pins s σ H x y v u Q I rx ry ⟨i, j, e1, e2, q⟩
  | _ => cases e3
theorem augD_ok {op : Bop} {a b : D} {S : Sto} {D' : Ends} {μ : Mu} {H : Hp} {f : FS} {k : D → Sto → SO} (h : GoodS G D' μ H ((augD op a b S).so f k)) : ∃ i j z, a = .int i ∧ b = .int j ∧ augD op (.int i) (.int j) [] = .ok (.int z) [] ∧ GoodS G D' μ H (k (.int z) S) := by
  cases op <;> cases a <;> try (exact h.elim)
  all_goals cases b <;> try (exact h.elim)
  all_goals exact ⟨_, _, _, rfl, rfl, rfl, h⟩
theorem fs_aug {n : Nat} {x : Str} {op : Bop} {p : Pos} (hN : X.N.Nodup) (hi : X.N[n]? = some x) (hx : Loc X.env.scope x) (hf : X.fn x = true ∨ X.env.scope.names.lookup x = some .local) (he : PE X e (lift G ta)) : PS X (.AugAssign (.Name x p) (opA op) e spos) (liftS G fun f S => augN op n ta f S) := by
  refine PS.imp (ps_aug hN hi hx he (ip_aug op) hf) fun D' σ H ⟨μ, f, S, R, L, z⟩ => ?_
  have z : GoodS G D' μ H (augN op n ta f S) := z
  unfold augN at z
  split at z
  · rename_i a ha
    obtain ⟨v, hv, iv⟩ := L.at_ n a ha
    refine ⟨v, hv, s_bind R L z fun d S1 w H1 μ1 e1 x1 R1 i1 L1 g => ?_⟩
    obtain ⟨i, j, r, rfl, rfl, er, g1⟩ := augD_ok g
    cases iv; cases i1
    exact ⟨i, j, r, rfl, rfl, er, g1 _ H1 μ1 Ext.refl R1 (L1.set rfl)⟩
  · exact z.elim
/-- o[i], by values: a list of the store -/
def rGet (K : PySem.W.Frag) : V → V → Hp → VK → Prop := fun x y H Q => ∃ (p : Addr) (xs : List V) (i : Int) (v : V), x = .ref p ∧ y = .int i ∧ H p = some (.lst xs) ∧ atI xs i = some v ∧ Q v H
theorem get_list : PGet X (rGet X.K) := by
  intro pins s σ H o i ov iv Q I ro ri ⟨p, xs, k, z, e1, e2, hp, he, q⟩
  subst e1 e2
  cases ro
  obtain ⟨t, rfl⟩ := ri
  obtain ⟨its, r, pl, hz⟩ := I.list (show SqL X.K H p xs from .inl (.inl hp))
  obtain ⟨j, h1, h2, h3, h4, h5⟩ := atI_get he
  obtain ⟨w, ew, rw'⟩ := r.get h2
  have hl := r.length
  have hn := line63
  have fin : EP X pins σ Q w s := ⟨z, H, I, rw', q⟩
  by_cases h0 : 0 ≤ k
  · have hj : k.toNat = j := by
      rw [seqIndex_of h0 h5] at h1
      exact Option.some.inj h1
    exact wpAny_getItem_list pl.isList h0 (by omega) (by rw [hj]; simpa using ew) fin
  · have hj : (k + (its.toArray.size : Int)).toNat = j := by
      rw [seqIndex_neg (by omega) h4] at h1
      rw [List.size_toArray, ← hl]
      exact Option.some.inj h1
    exact wpAny_getItem_list_neg pl.isList (by omega) (by rw [List.size_toArray] <;> omega) (by omega) (by rw [hj]; simpa using ew) fin
theorem augGet_ok {D' : Ends} {μ : Mu} {H : Hp} {S : Sto} {d j : D} {x y : V} {f : FS} {k : D → Sto → SO} (R : RepS G.K G.C μ S H) (i1 : Is G.K μ H d x) (i2 : Is G.K μ H j y) (h : GoodS G D' μ H ((augGet d j S).so f k)) : ∃ (p : Addr) (xs : List V) (i : Int) (v : V) (w : D), x = .ref p ∧ y = .int i ∧ H p = some (.lst xs) ∧ atI xs i = some v ∧ Is G.K μ H w v ∧ GoodS G D' μ H (k w S) := by
  cases d with
  | ref n =>
    cases j with
    | int j =>
      cases i2
      have e0 : augGet (.ref n) (.int j) S = (match items S (.ref n) with
        | some ds => match placeOf j ds.length with
          | some k => match ds[k]? with
            | some d => .ok d S
            | none => .bad
          | none => .bad
        | none => .bad) := rfl
      rw [e0] at h
      cases e1 : items S (.ref n) with
      | none => rw [e1] at h; exact h.elim
      | some ds =>
        rw [e1] at h
        dsimp only at h
        cases e2 : placeOf j ds.length with
        | none => rw [e2] at h; exact h.elim
        | some m =>
          rw [e2] at h
          dsimp only at h
          cases e3 : ds[m]? with
          | none => rw [e3] at h; exact h.elim
          | some w =>
            rw [e3] at h
            obtain ⟨a, vs, rfl, hq, l⟩ := R.items i1 e1
            obtain ⟨v, e4, iv⟩ := at_isL l e2 e3
            exact ⟨a, vs, j, v, w, rfl, rfl, hq, e4, iv, h⟩
    | _ => exact h.elim
  | _ => exact h.elim
theorem fs_augS {op : Bop} {p : Pos} (k : G.K = X.K) (hu : X.A.units + 1 < cLine) (ho : PE X o (lift G ta)) (hi : PE X i (lift G tb)) (he : PE X e (lift G tc)) (hsl : notSlice i = true) :
    PS X (.AugAssign (.Subscript o i p) (opA op) e spos) (liftS G fun f S => (ta f S).so f fun o S => (tb f S).so f fun i S => (augGet o i S).so f fun a S => (tc f S).so f fun b S => (augD op a b S).so f fun d S => (putD o i d S).so f fun _ S => .nx f S) := by
  have hst : ∀ ov iv new, augStore i ov iv new = (do holding [new, ov, iv] (setItem ov iv new); release [new, ov, iv] []; pure .next) := by
    intro ov iv new
    cases i <;> first | rfl | cases hsl
  refine PS.imp (ps_augS ho hi get_list he (ip_aug op) (kno_set (set_D hu)) hst) fun D' σ H ⟨μ, f, S, R, L, z⟩ => ?_
  refine s_bind R L z fun d S1 v H1 μ1 e1 x1 R1 i1 L1 g => ?_
  refine s_bind R1 L1 g fun d2 S2 v2 H2 μ2 e2 x2 R2 i2 L2' g2 => ?_
  have i1' := i1.mono R1.toRep0 x2
  obtain ⟨pa, xs, n, w, dw, ep, en, hp, ha, iw, g3⟩ := augGet_ok R2 i1' i2 g2
  refine ⟨pa, xs, n, w, ep, en, hp, ha, ?_⟩
  refine s_bind R2 L2' g3 fun d3 S3 v3 H3 μ3 e3 x3 R3 i3 L3 g4 => ?_
  obtain ⟨a, b, r, rfl, rfl, er, g5⟩ := augD_ok g4
  cases iw; cases i3
  refine ⟨a, b, r, rfl, rfl, er, ?_⟩
  obtain ⟨S4, e4, g6⟩ := so_ok_of (putD_ne _ _ _ _) g5
  refine putD_ok R3 (i1'.mono R2.toRep0 x3) (i2.mono R2.toRep0 x3) (show Is G.K μ3 H3 (.int r) (.int r) from rfl) e4 fun H' x4 w kz => ?_
  rw [← k] at kz
  exact g6 σ H' μ3 x4 (w kz) (L3.mono R3.toRep0 x4)
end
end SL
set_option Elab.async false
set_option linter.all false
set_option maxRecDepth 100000
set_option maxHeartbeats 1000000
/-! B1: raise; a try whose error is kept as a value. -/
namespace SL
open PySem PySem.Spec L2
section
variable {X : Cx} {pins : List (Addr × Obj)} {σ : St} {H : Hp} {s s2 : Shared} {a : Addr} {oe : Obj} {vs : Array Value} {cls : Value} {d : Option Addr}
/-- an object that came after s is tracked from now on -/
theorem track (I : Inv X pins σ H s) (n0 : s.heap.get? a = none) (J : Inv X pins σ H s2) (e : s2.heap.get? a = some oe) (z : Zc cls d oe) (dv : oe.data = .fields vs) (na : H a = none) (nl : a ≠ X.env.locals) (hx : X.ex = []) : Inv X pins σ (upd H a (ExT cls d a)) s2 := by
  have n1 : X.s_0.heap.get? a = none := by
    cases q : X.s_0.heap.get? a with
    | none => rfl
    | some w =>
      obtain ⟨w', q'⟩ := I.base.there a w q (by rw [hx]; simp)
      rw [n0] at q'; cases q'
  have ne : ∀ {b : Addr} {w : Obj}, X.s_0.heap.get? b = some w → b ≠ a := fun q r => by rw [r, n1] at q; cases q
  have keepH : ∀ {b : Addr} {w : HO}, H b = some w → upd H a (ExT cls d a) b = some w := fun q => by rw [upd_ne (ne_of_none q na)]; exact q
  refine ⟨J.ok, J.os, J.bare, ⟨J.base.keep, J.base.slot, fun b w q r t => ?_, J.base.there, fun b xs q => keepH (J.base.tups b xs q), fun b w u q => keepH (J.base.frzs b w u q), fun b ps q => ?_⟩, J.loc, J.cell, ?_, fun y c q => ?_, fun p hp => ?_, ?_, J.len⟩
  · rw [upd_ne (ne q)]; exact J.base.free b w q r t
  · obtain ⟨more, q'⟩ := J.base.tbls b ps q
    exact ⟨more, keepH q'⟩
  · rw [upd_ne (Ne.symm nl)]; exact J.free
  · have hc : c ≠ a := fun r => by
      obtain ⟨v, w, q1, q2⟩ := J.cell y c q
      rw [r, e] at q1
      cases q1
      rw [dv] at q2
      cases q2
    rw [upd_ne hc]; exact J.freeC y c q
  · obtain ⟨p1, p2, p3⟩ := J.pin p hp
    have hpa : p.1 ≠ a := fun r => by
      have q := (I.pin p hp).1
      rw [r, n0] at q; cases q
    exact ⟨p1, by rw [upd_ne hpa]; exact p2, p3⟩
  · exact J.hok.laidN (fun _ _ q => q) na ⟨⟨oe, vs, e, z, dv⟩, ⟨oe, e⟩, fun _ _ ⟨o, v, q, r⟩ k => ⟨o, v, k o q, r⟩⟩
/-- into the suite, and back -/
theorem inSuite (I : Inv X pins σ H s) (a : Addr) : Inv (X.suite a (X.pn ++ pins)) [] σ H s :=
  ⟨I.ok.suite a _, I.os, I.bare, I.base, I.loc, I.cell, I.free, I.freeC, fun p hp => I.pin p (by simpa using hp), I.hok, I.len⟩
theorem outSuite {pl : List (Addr × Obj)} (ok : X.Ok) (I : Inv (X.suite a (X.pn ++ pins)) pl σ H s) : Inv X pins σ H s :=
  ⟨ok, I.os, I.bare, I.base, I.loc, I.cell, I.free, I.freeC, fun p hp => I.pin p (List.mem_append_left _ hp), I.hok, I.len⟩
end
/-- the ends of a suite whose name (slot i) is gone behind it -/
def goneE (i : Nat) (D : Ends) : Ends := ⟨fun σ H => D.nx (σ.set i none) H, D.rt, fun σ H => D.bk (σ.set i none) H, fun σ H => D.ct (σ.set i none) H⟩
/-- what 'except x as n' wishes, where the suite may keep the error -/
def wKeep (K : PySem.W.Frag) (c : Value) (i : Nat) (ts : Addr → TS) (Wout : WX) (D : Ends) : WX := fun cls d σ H =>
  ∃ b, PySem.W.exmOne K cls c = some b ∧ (b = true → ∀ a, H a = none → ts a (goneE i D) (σ.set i (some (.ref a))) (upd H a (ExT cls d a))) ∧ (b = false → Wout cls d σ H)
section
variable {X : Cx} {x n : Str} {c : Value} {i : Nat} {body suite : List Stmt} {st1 : Stmt} {np pos hpos : Pos} {tb : WX → TS} {ts : Addr → TS} {Wout : WX}
theorem ps_try_keep (hex : X.ex = []) (stk : X.stack = X.env :: X.outer) (frm : X.env.frame = some X.env.locals) (hN : X.N.Nodup) (hi : X.N[i]? = some n) (ln : X.env.kindOf n = some .local) (cn : Names X x c) (tk : Takes X Wout)
    (hb : ∀ (W : WX) (pn : List (Addr × Obj)) (xe : Value → Shared → Prop), Takes (X.tr pn xe) W → PassesOwn (model X.prog X.w) X.A X.env xe → PSs (X.tr pn xe) body (tb W))
    (hsu : ∀ (a : Addr) (pn : List (Addr × Obj)), PSs (X.suite a pn) (st1 :: suite) (ts a)) :
    PS X (.Try body [.ExceptHandler (some (.Name x np)) (some n) (st1 :: suite) hpos] [] [] pos) (fun D σ H => tb (wKeep X.K c i ts Wout D) D σ H) := by
  constructor
  intro pins s σ H D I h
  have ok := I.ok
  have frs' : X.A.frames = some (X.env :: X.outer) := by rw [ok.frames, stk]
  have body_run := (hb (wKeep X.K c i ts Wout D) (X.pn ++ pins) (fun u t1 => wpAny (model X.prog X.w) X.A (noteFrame u X.env) (fun _ t2 => wpAny (model X.prog X.w) X.A (setFlight u none) (fun _ t3 =>
    wpAny (model X.prog X.w) X.A (handleBy u X.env [.ExceptHandler (some (.Name x np)) (some n) (st1 :: suite) hpos]) (SP X pins D) X.xe t3) X.xe t2) X.xe t1) (fun u t air => ?_) PassesOwn.looking).run [] s σ H D (I.toTry _) h
  · refine wpAny_Try_except (wpAny_mono body_run (fun fl t1 z => ?_) (fun _ _ z => z))
    cases fl with
    | next =>
      obtain ⟨σ1, H1, J1, q1⟩ := z
      exact wpAny_execs_nil ⟨σ1, H1, J1.ofTry ok, q1⟩
    | brk =>
      obtain ⟨σ1, H1, J1, q1⟩ := z
      exact ⟨σ1, H1, J1.ofTry ok, q1⟩
    | cont =>
      obtain ⟨σ1, H1, J1, q1⟩ := z
      exact ⟨σ1, H1, J1.ofTry ok, q1⟩
    | ret u =>
      obtain ⟨v1, σ1, H1, J1, r1, q1⟩ := z
      exact ⟨v1, σ1, H1, J1.ofTry ok, r1, q1⟩
  -- an error in the air
  obtain ⟨a, B, t0, pl, σ1, H1, cls, d, rfl, J0, ground, up, sky, na, os, ag, b, ex1, yes, no⟩ := air
  have J : Inv X pins σ1 H1 t0 := J0.ofTry ok
  have sky1 : Sky B (X.env :: X.outer) a (Zc cls d) X.env.locals t.heap := by rw [← stk]; exact sky
  refine Sky.land Zc.steady frs' frm sky1 fun h3 fl3 up3 => ?_
  have J3 : Inv X pins σ1 H1 { t with heap := h3 } := J.landed ground fl3.1 (up.trans up3) os ag
  obtain ⟨o3, v3, g3, z3, d3⟩ := fl3.there
  have out : a ∉ frs (X.env :: X.outer) := fun hm => by
    obtain ⟨_, o', e', hnf⟩ := fl3.2.2.1.mem hm
    rw [g3] at e'; cases e'
    exact hnf _ d3
  have nl : a ≠ X.env.locals := fun q => out (List.mem_filterMap.mpr ⟨X.env, List.mem_cons_self, by rw [frm, q]⟩)
  have n0 : t0.heap.get? a = none := by
    cases q : t0.heap.get? a with
    | none => rfl
    | some w =>
      have q1 := ground a w q (by rw [stk]; exact out)
      rw [fl3.2.1] at q1; cases q1
  refine wpAny_handleBy_cons (codeAny_handlers_test ?_) (by intro q; cases q)
  have tyA : PySem.W.Looks (model X.prog X.w) h3 (typeOf (.ref a)) cls := fun A Q E w k q => wpAny_typeOf_ref (k _ _ g3) (by rw [z3.1]; exact q)
  have match1 := PySem.W.exm_one (M := model X.prog X.w) J3.kIn tyA ex1
  have name1 : ∀ {Q : Value → Shared → Prop} {E : Value → Shared → Prop}, Q c { t with heap := h3 } → wpAny (model X.prog X.w) (X.A.mark (some (.ref a))) (eval (.Name x np) X.env) Q E { t with heap := h3 } := fun {Q E} q => by
    obtain ⟨cg, cd, cm | ⟨cm, cv, cw⟩⟩ := cn
    · exact ld_glob (X := X.suite a (X.pn ++ pins)) (inSuite J3 a) cg cm q cd
    · exact ld_blt (X := X.suite a (X.pn ++ pins)) (inSuite J3 a) cg cm cv q cw cd
  refine name1 (match1.here ?_)
  cases b with
  | true =>
    refine codeAny_handlers_suite_as (HandSPX.lands_againZ fl3 fun h4 fl4 up4 => ?_)
    have J4 : Inv X pins σ1 H1 { t with heap := h4 } := J.landed ground fl4.1 ((up.trans up3).trans up4) os ag
    obtain ⟨o4, v4, g4, z4, d4⟩ := fl4.there
    have T4 := inSuite (track J n0 J4 g4 z4 d4 na nl hex) a
    refine store_ok (X := X.suite a (X.pn ++ pins)) (v := .ref a) T4 hN hi (.inl ln) rfl (fun t5 T5 => ?_) (.inr ln)
    refine wpAny_mono ((hsu a (X.pn ++ pins)).run [] t5 _ _ (goneE i D) T5 (yes rfl a na)) (fun fl t6 z => ?_) (fun _ _ q => q.elim)
    cases fl with
    | next =>
      obtain ⟨σ6, H6, T6, q6⟩ := z
      exact gone_ok (outSuite ok T6) hN hi ln fun t7 J7 => ⟨_, _, J7, q6⟩
    | brk =>
      obtain ⟨σ6, H6, T6, q6⟩ := z
      exact gone_ok (outSuite ok T6) hN hi ln fun t7 J7 => ⟨_, _, J7, q6⟩
    | cont =>
      obtain ⟨σ6, H6, T6, q6⟩ := z
      exact gone_ok (outSuite ok T6) hN hi ln fun t7 J7 => ⟨_, _, J7, q6⟩
    | ret u =>
      obtain ⟨v6, σ6, H6, T6, r6, q6⟩ := z
      exact gone_ok (outSuite ok T6) hN hi ln fun t7 J7 => ⟨_, _, _, J7, r6, q6⟩
  | false =>
    show wpAny _ X.A (handleBy (.ref a) X.env []) _ _ _
    refine wpAny_handleBy_nil ?_
    obtain ⟨k1, k2, k3, o5, v5, T5, p5, y5, g5, z5, d5, f5, _⟩ := id fl3
    unfold PySem.passOn
    refine wpAny_bind (wpAny_field g5 d5 f5 ?_)
    rw [if_neg (show ¬ ((Value.ref T5 == Value.none) = true) from by simp)]
    have fin : wpAny (model X.prog X.w) X.A (setFlight (.ref a) X.env.frame) (fun _ t4 => wpAny (model X.prog X.w) X.A (throw (.ref a) : Sem Flow) (SP X pins D) X.xe t4) X.xe { t with heap := h3 } := by
      rw [frm]
      exact HandSPX.setFlight_upZ fl3 fun h4 hh4 up4 => wpAny_throw (tk _ _ ⟨a, B, t0, pins, σ1, H1, cls, d, rfl, J, ground, (up.trans up3).trans up4, .inr (.inr (by rw [stk]; exact hh4)), na, os, ag, no rfl⟩)
    first
      | exact wpAny_bind fin
      | exact wpAny_bind (wpAny_pure (wpAny_bind fin))
end
end SL
set_option Elab.async false
set_option linter.all false
set_option maxRecDepth 100000
set_option maxHeartbeats 4000000
/-! an error that has fields: isinstance asks its class -/
namespace SL
open PySem PySem.Spec PySem.Calls PyProof.Rows L2
open PySem.W (Looks Frag InstAt findIn subIn hasDictIn specialIn takesIn mroIn findObj clsIn KitX looks_findIn looks_find looks_subIn any_some class_get)
section
variable {prog : Program} {w : World} {A : Around} {E : Value → Shared → Prop} {sh : Shared} {K : Frag} {er D : Addr} {oe : Obj} {dd : Option Obj}
theorem find_desc {nm : Str} {va ge : Value} (c1 : (clsIn K D).isSome = true) (c2 : findIn K (.ref D) nm = some (some va)) (c3 : specialIn K va "__get__" = some (some ge)) (c4 : takesIn K va = some true) : findObj K D dd nm = some (.bind ge va) := by
  obtain ⟨cd, c0⟩ := Option.isSome_iff_exists.mp c1
  simp only [findObj, c0, Option.bind_some, c2, c3, c4]
theorem class_of_err {Q : Option Value → Shared → Prop} (T : ExcC K D) (hK : K.In sh.heap) (J : InstAt sh.heap er oe D dd) (q : Q (some (.ref D)) { sh with toks := sh.toks + 1 }) : wpAny (model prog w) A (getAttr? (.ref er) "__class__") Q E sh := by
  have fo : findObj K D dd "__class__" = some (.bind (.builtin "getset_descriptor.__get__") (.builtin "object.__class__")) := find_desc (by obtain ⟨cd, z, _⟩ := any_some T.hd; rw [z]; rfl) T.ha T.hn T.ht
  obtain ⟨hp, gs, dr, tk, os⟩ := sh
  have ty := J.type (M := model prog w)
  have g1 := looks_findIn (M := model prog w) hK T.hg
  have g2 := looks_findIn (M := model prog w) hK T.hk
  have g3 := looks_find (M := model prog w) hK J fo
  have isb : Looks (model prog w) hp (isInstance (.ref er) (.type "BaseException")) true := ty.andThen (looks_subIn hK T.hs)
  have z0 : (false && onTheHeap (.builtin "BaseException.__getattribute__")) = false := rfl
  have z2 : ((.builtin "BaseException.__getattribute__" : Value) == .builtin "object.__getattribute__") = false := by decide +kernel
  have z1 : (onTheHeap (.ref D) && (.builtin "BaseException.__getattribute__" : Value) == .builtin "object.__getattribute__") = false := by rw [z2]; rfl
  unfold getAttr? getAttrBy? getAttrBy
  refine wpAny_bind (wpAny_mkText (wpAny_bind (wpAny_attempt (wpAny_holding (wpAny_bind (ty.at (wpAny_bind (g1.at ?_))))))))
  show wpAny _ _ (if (onTheHeap (.ref D) && (.builtin "BaseException.__getattribute__" : Value) == .builtin "object.__getattribute__") = true then _ else _) _ _ _
  rw [z1, if_neg Bool.false_ne_true]
  unfold getAttrByItsOwn hookBefore
  refine wpAny_bind ?_
  rw [if_pos (show onTheHeap (.ref D) = true from rfl)]
  refine g2.at (wpAny_bind (wpAny_attempt (wpAny_holding ?_)))
  unfold callGetattribute
  rw [z0, if_neg Bool.false_ne_true]
  unfold boundAndCalled
  rw [PySem.F.excAttr_ValueError.ga.bind (.ref er)]
  refine wpAny_bind (wpAny_pure ?_)
  show wpAny _ _ (call (.builtin "BaseException.__getattribute__") [.ref er, .str "__class__" tk]) _ _ _
  refine wpAny_call (codeAny_call_builtin PySem.F.excAttr_ValueError.ga.plain PySem.F.entry_bexc_ga ?_)
  refine @PySem.W.check_slot (model prog w) _ _ ⟨hp, gs, dr, tk + 1, os⟩ "BaseException.__getattribute__" "BaseException" "__getattribute__" (.ref er) [.str "__class__" tk] [] _ (by decide +kernel) (by decide +kernel) isb (PySem.F.args_bexc_ga (.ref er) (.str "__class__" tk)) ?_
  unfold Builtin.«object.__getattribute__»
  refine wpAny_bind (wpAny_of_eq (a := ((.ref er : Value), [.str "__class__" tk])) (by first | rfl | (simp only [slotArgs]; rfl)) ?_)
  refine wpAny_bind (wpAny_pure (wpAny_bind (ty.at (wpAny_bind (g3.at ?_)))))
  show wpAny _ _ (holding [.builtin "object.__class__"] (call (.builtin "getset_descriptor.__get__") [.builtin "object.__class__", .ref er, .ref D]) >>= ret) _ _ _
  refine wpAny_bind (wpAny_holding (wpAny_call (class_get (s := ⟨hp, gs, dr, tk + 1, os⟩) (ox := oe) (od := dd) hK J T.hm ?_)))
  refine wpAny_pure ?_
  show wpAny _ _ (handedOut (.ref D)) _ _ _
  rw [PySem.W.handedOut_of (v := .ref D) rfl]
  first
    | exact wpAny_pure (wpAny_pure q)
    | exact wpAny_pure q
    | exact wpAny_pure (wpAny_bind (wpAny_pure (wpAny_pure q)))
theorem kitx_err (T : ExcC K D) : KitX K (.ref er) (.ref D) (fun h => InstAt h er oe D dd) where
  ty := fun _ _ _ J => J.type
  it := fun _ _ hK _ => by
    obtain ⟨cd, z, _⟩ := any_some T.hd
    unfold PySem.W.clsIn at z
    split at z
    · rename_i c' d' cd' sl' ho
      intro A' Q' E' s' k q
      unfold isType loadHead
      exact wpAny_bind (wpAny_loadPart (k _ _ (hK _ _ ho)) (wpAny_pure q))
    · cases z
  ne := fun h tp dd its n sl hK htp => by
    obtain ⟨cd, z, _⟩ := any_some T.hd
    refine Bool.eq_false_iff.mpr fun q => ?_
    have e : D = tp := Value.ref.inj (beq_iff_eq.mp q)
    subst e
    unfold PySem.W.clsIn at z
    split at z
    · rename_i c' d' cd' sl' ho
      have u := (hK _ _ ho).symm.trans htp
      cases u
    · cases z
  ca := fun hK J k => class_of_err T hK J k
end
end SL
set_option Elab.async false
set_option linter.all false
set_option maxRecDepth 100000
set_option maxHeartbeats 1000000
/-! B2: raise and try, lifted; isinstance of a kept error. -/
namespace SL
open PySem PySem.Spec L2
theorem XIs.mono {K : PySem.W.Frag} {C : Nat → Addr} {μ μ' : Mu} {H H' : Hp} {S : Sto} {fs : List (Nat × D)} {d : Option Addr} (R : Rep0 K C μ S H) (x : Grow μ H μ' H') (h : XIs K μ H fs d) : XIs K μ' H' fs d := by
  cases fs with
  | nil => exact h
  | cons f fs =>
    obtain ⟨p, fv, e1, n, hp, l⟩ := h
    exact ⟨p, fv, e1, x.out p _ hp n, x.kept p _ hp n, l.monoG R x⟩
section
variable {X : Cx} {G : Gx} {pos spos hpos np p1 p2 : Pos} {t : FS → Sto → SO}
theorem PSs.klen {st : List Stmt} {t : TS} (h : PSs X st t) : PSs X st (fun D σ H => σ.length = X.N.length → t D σ H) := ⟨fun pins s σ H D I q => h.run pins s σ H D I (q I.len)⟩
theorem set_thrice {α : Type} (l : List α) (i v : Nat) (x y z : α) : ((l.set i x).set v y).set i z = (l.set v y).set i z := by
  by_cases e : i = v
  · subst e; simp
  · rw [List.set_comm _ _ e, List.set_set]
theorem fs_try {x n m : Str} {i v : Nat} {body : List Stmt} (k : G.K = X.K) (hex : X.ex = []) (stk : X.stack = X.env :: X.outer) (frm : X.env.frame = some X.env.locals) (hN : X.N.Nodup) (hi : X.N[i]? = some n) (hv : X.N[v]? = some m) (ln : X.env.scope.names.lookup n = some .local) (lm : X.env.scope.names.lookup m = some .local)
    (dn : (n == ("__debug__" : Str)) = false) (dc : (n == ("__classdict__" : Str)) = false) (cn : Names X x (.ref (G.C 0))) (tk : Takes X G.W) (hx : ∀ y, PySem.W.exmOne X.K (.ref (G.C y)) (.ref (G.C 0)) = some true)
    (hb : ∀ (W : WX) (pn : List (Addr × Obj)) (xe : Value → Shared → Prop), Takes (X.tr pn xe) W → PassesOwn (model X.prog X.w) X.A X.env xe → PSs (X.tr pn xe) body (liftS ⟨G.K, G.C, W⟩ t)) :
    PS X (.Try body [.ExceptHandler (some (.Name x np)) (some n) [.Assign [.Name m p1] (.Name n p2) spos] hpos] [] [] pos) (liftS G fun f S => tryD 0 i v (t f S)) := by
  have suite : ∀ (a : Addr) (pn : List (Addr × Obj)), PSs (X.suite a pn) [.Assign [.Name m p1] (.Name n p2) spos] (fun D σ H => σ.length = X.N.length → tAsg (tVar i) (gName v) D σ H) := fun a pn =>
    PSs.klen (X := X.suite a pn) (pss_one (ps_set (X := X.suite a pn) hN hv (.inl lm) (pe_var (X := X.suite a pn) hi (.inl ln) dn dc) rfl (.inr lm)))
  refine PS.imp (PS.kno (ps_try_keep hex stk frm hN hi ln cn tk hb suite)) fun D' σ H ⟨μ, f, S, R, L, z⟩ => ⟨μ, f, S, R, L, ?_⟩
  have z : GoodS G D' μ H (tryD 0 i v (t f S)) := z
  cases e : t f S with
  | nx f' S' => rw [e] at z; exact fun σ' H' μ' x R' L' _ => z σ' H' μ' x R' L'
  | brk f' S' => rw [e] at z; exact z
  | ct f' S' => rw [e] at z; exact z
  | ret f' S' => rw [e] at z; exact z
  | bad => rw [e] at z; exact z
  | exc y fs f' S' =>
    rw [e] at z
    have u : under y 0 = true := by simp [under]
    have z : GoodS G D' μ H (.nx ((setAt f' v (.ref S'.length)).set i none) (S' ++ [.exc y fs])) := by
      have e2 : tryD 0 i v (.exc y fs f' S') = .nx ((setAt f' v (.ref S'.length)).set i none) (S' ++ [.exc y fs]) := if_pos u
      rw [e2] at z; exact z
    intro σ' H' μ' dd x' R' L' xi
    refine ⟨true, hx y, fun _ a na hl => ?_, fun q => by cases q⟩
    have li : i < σ'.length := by
      rw [List.length_set] at hl
      rw [hl]
      exact (List.getElem?_eq_some_iff.mp hi).1
    refine ⟨.ref a, by rw [List.getElem?_set_self li], fun kz => ?_⟩
    rw [← k] at kz
    have ob : ObIs G.K G.C (μ'.push a) (upd H' a (ExT (.ref (G.C y)) dd a)) a (.exc y fs) := ⟨dd, upd_same, XIs.mono R'.toRep0 (ext_own na).grow xi⟩
    have R2 := R'.push na kz ob
    have ia : Is G.K (μ'.push a) (upd H' a (ExT (.ref (G.C y)) dd a)) (.ref S'.length) (.ref a) := ⟨a, rfl, by
      show (μ'.l ++ [a])[S'.length]? = some a
      rw [← R'.len]
      simp⟩
    have L2' := ((L'.mono R'.toRep0 (ext_own na)).set (i := i) ia)
    have L3 := (L2'.set (i := v) ia).unset i
    have e3 : (setAt (setAt f' i (.ref S'.length)) v (.ref S'.length)).set i none = (setAt f' v (.ref S'.length)).set i none := set_thrice _ _ _ _ _ _
    rw [e3] at L3
    exact z _ _ _ (x'.trans (ext_own na)) R2 L3
/-- raise X('..') -/
theorem fs_raise {x m : Str} {c j : Nat} {bmB : List Value} {B newId initId : String} (F : ExcBaseFacts B newId initId bmB) (hc : X.calm = true) (tk : Takes X G.W) (q : PySem.W.excIn X.K (G.C c) bmB newId = true) (gC : X.mg x = some (.ref (G.C c))) (kC : PySem.W.keepIn X.K (.ref (G.C c)) = true) (r : Raises X (.ref (G.C c))) (hg : Gl X x) (hdb : (x == ("__debug__" : Str)) = false) :
    PS X (.Raise (some (.Call (.Name x p1) [.Constant (.str m) j p2] [] pos)) none spos) (liftS G fun f S => .exc c [] f S) :=
  PS.imp (ps_raise hc tk (pmk_own F q gC kC r hg hdb)) fun D' σ H ⟨μ, f, S, R, L, z⟩ => z σ H μ none Ext.refl R L rfl
/-! ### isinstance with own classes and ValueError -/
/-- what the module's classes say -/
structure ClsOk (K : PySem.W.Frag) (C : Nat → Addr) : Prop where
  exc : ∀ y, y < 15 → ExcC K (C y)
  kit : ∀ y c, y < 15 → c < 15 → PySem.W.kitOne K (.ref (C y)) (.ref (C c)) = some (under y c)
  ve : ∀ y, y < 15 → PySem.W.kitOne K (.ref (C y)) (.type "ValueError") = some true
  non : ∀ c, c < 15 → ∀ T ∈ ["NoneType", "bool", "int", "str", "tuple", "list"], PySem.W.kitOne K (.type T) (.ref (C c)) = some false
  nve : ∀ T ∈ ["NoneType", "bool", "int", "str", "tuple", "list"], PySem.W.kitOne K (.type T) (.type "ValueError") = some false
  exm : ∀ y, PySem.W.exmOne K (.ref (C y)) (.ref (C 0)) = some true
  fno : ∀ y, y < 15 → ∀ n, n < 2 → PySem.W.findIn K (.ref (C y)) (fname n) = some none
def rIsX (K : PySem.W.Frag) : List V → Hp → VK → Prop := fun xs H Q => ∃ (a D : Addr) (c : V) (cv : Value) (b : Bool) (dd : Option Addr), xs = [.ref a, c] ∧ ClsV c cv ∧ H a = some (ExT (.ref D) dd a) ∧ (∀ p, dd = some p → ∃ fv, H p = some (.xd fv)) ∧ ExcC K D ∧ PySem.W.kitOne K (.ref D) cv = some b ∧ Q (.bl b) H
theorem call_isX : CallR X (.builtin "isinstance") (rIsX X.K) := by
  intro pins s σ H xs us Q I r ⟨a, D, c, cv, b, dd, e0, hc, ha, hd, T, hk, q⟩
  subst e0
  cases r with
  | cons r1 r2 =>
    cases r2 with
    | cons r3 r4 =>
      cases r4
      cases r1
      obtain ⟨⟨oe, vs, g1, ⟨z1, z2⟩, g3⟩, _⟩ := I.hok a _ ha
      have ec := hc.eq r3
      subst ec
      have J : ∃ od, PySem.W.InstAt s.heap a oe D od := by
        obtain ⟨u1, u2, u3, u4⟩ := oe
        dsimp only at z1 z2 g3
        subst z1 z2 g3
        cases u2 with
        | none => exact ⟨none, g1, rfl, rfl, trivial⟩
        | some p =>
          obtain ⟨fv, hp⟩ := hd p rfl
          obtain ⟨mA, ⟨o, es, ep, go, _⟩, _⟩ := I.hok p _ hp
          exact ⟨some o, g1, rfl, rfl, go⟩
      obtain ⟨od, J⟩ := J
      exact PySem.W.kia_one (kitx_err T) I.kIn J hk (fun z => nomatch z) fun tk => ⟨.bl b, H, I.kept (t' := tk) fun _ _ z => z, rfl, q⟩
theorem tyN_ok {S : Sto} {d : D} {T : String} (h : tyN S d = some T) : T ∈ ["NoneType", "bool", "int", "str", "tuple", "list"] := by
  cases d with
  | ref k =>
    cases e : S[k]? with
    | none => simp only [tyN, e] at h; cases h
    | some o =>
      simp only [tyN, e] at h
      cases o with
      | lst _ => cases h; decide
      | ins _ _ => cases h
      | exc _ _ => cases h
      | dct _ _ => cases h
  | dct _ _ => cases h
  | _ => cases h; decide
/-- the answer of isinstance of one class -/
theorem isi_own {μ : Mu} {H : Hp} {S : Sto} {d : D} {v cv : V} {u : Value} {t : Ty} {b : Bool} {Q : VK} (R : RepS G.K G.C μ S H) (T : ClsOk G.K G.C) (i : Is G.K μ H d v) (hc : ClsV cv u) (ht : (∃ c, t = .own c ∧ c < 15 ∧ u = .ref (G.C c)) ∨ (t = .ve ∧ u = .type "ValueError")) (h : isTy S t d = some b) (q : Q (.bl b) H) :
    rIsi G.K [v, cv] H Q ∨ rIsX G.K [v, cv] H Q := by
  have data : ∀ T0, tyN S d = some T0 → b = false → rIsi G.K [v, cv] H Q := fun T0 hT hb => by
    subst hb
    refine ⟨v, cv, .type T0, u, false, rfl, hc, ty_of R i hT, ?_, q⟩
    rcases ht with ⟨c, rfl, hl, rfl⟩ | ⟨rfl, rfl⟩
    · exact T.non c hl _ (tyN_ok hT)
    · exact T.nve _ (tyN_ok hT)
  have bf : ∀ {x : D}, (∀ k, x ≠ .ref k) → isTy S t x = some b → b = false := fun {x} hx hb => by
    rcases ht with ⟨c, rfl, _⟩ | ⟨rfl, _⟩ <;> cases x <;> first | (cases hb; done) | (cases hb; rfl) | exact absurd rfl (hx _)
  cases d with
  | ref k =>
    unfold isTy at h
    dsimp only at h
    cases e1 : S[k]? with
    | none => rw [e1] at h; cases h
    | some o =>
      rw [e1] at h
      cases o with
      | lst ds =>
        refine .inl (data "list" (by simp only [tyN, e1]) ?_)
        rcases ht with ⟨c, rfl, _⟩ | ⟨rfl, _⟩ <;> cases h <;> rfl
      | ins _ _ => rcases ht with ⟨c, rfl, _⟩ | ⟨rfl, _⟩ <;> cases h
      | dct _ _ => rcases ht with ⟨c, rfl, _⟩ | ⟨rfl, _⟩ <;> cases h
      | exc y fs =>
        obtain ⟨a, rfl, m, dd, he, xi⟩ := R.at i e1
        have xd : ∀ p, dd = some p → ∃ fv, H p = some (.xd fv) := fun p hp => by
          cases fs with
          | nil => rw [show dd = none from xi] at hp; cases hp
          | cons f0 fr =>
            obtain ⟨p', fv, e, _, hx, _⟩ := xi
            rw [e] at hp
            cases hp
            exact ⟨fv, hx⟩
        refine .inr ?_
        rcases ht with ⟨c, rfl, hl, rfl⟩ | ⟨rfl, rfl⟩
        · dsimp only at h
          split at h
          · rename_i hyc
            cases h
            exact ⟨a, _, cv, _, _, dd, rfl, hc, he, xd, T.exc y hyc.1, T.kit y c hyc.1 hyc.2, q⟩
          · cases h
        · dsimp only at h
          split at h
          · rename_i hy
            cases h
            exact ⟨a, _, cv, _, _, dd, rfl, hc, he, xd, T.exc y hy, T.ve y hy, q⟩
          · cases h
  | non => exact .inl (data _ rfl (bf (fun k z => by cases z) h))
  | bl _ => exact .inl (data _ rfl (bf (fun k z => by cases z) h))
  | int _ => exact .inl (data _ rfl (bf (fun k z => by cases z) h))
  | str _ => exact .inl (data _ rfl (bf (fun k z => by cases z) h))
  | tup _ => exact .inl (data _ rfl (bf (fun k z => by cases z) h))
  | lst _ => exact .inl (data _ rfl (bf (fun k z => by cases z) h))
  | scr _ => exact .inl (data _ rfl (bf (fun k z => by cases z) h))
  | dct _ _ => cases h
theorem call_or {f : Value} {r1 r2 : List V → Hp → VK → Prop} (h1 : CallR X f r1) (h2 : CallR X f r2) : CallR X f (fun xs H Q => r1 xs H Q ∨ r2 xs H Q) := fun pins s σ H xs us Q I r q => q.elim (h1 pins s σ H xs us Q I r) (h2 pins s σ H xs us Q I r)
theorem isi_one {t : Ty} {d : D} {S : Sto} {b : Bool} (q : isTys S d [t] = some b) : isTy S t d = some b := by
  unfold isTys at q
  cases q1 : isTy S t d with
  | none => rw [q1] at q; cases q
  | some x =>
    rw [q1] at q
    unfold isTys at q
    cases q
    simp
theorem fe_isiC {a : Expr} {ta : FS → Sto → Out D} {t : Ty} {y : Str} {cv : V} {u : Value} (k : G.K = X.K) (T : ClsOk G.K G.C) (ha : PE X a (lift G ta)) (hs : notStar a = true) (hg : Gl X "isinstance") (hm : X.mg "isinstance" = none) (hy : PE X (.Name y p1) (tC cv)) (hc : ClsV cv u) (ht : (∃ c, t = .own c ∧ c < 15 ∧ u = .ref (G.C c)) ∨ (t = .ve ∧ u = .type "ValueError")) :
    PE X (.Call (.Name "isinstance" np) [a, .Name y p1] [] pos) (lift G fun f S => (ta f S).bind fun x S => isiD [t] x S) := by
  refine PE.imp (pe_callB (call_or call_isi call_isX) hg hm PyProof.Rows.boot_isinstance (pa_cons ha (pa_cons hy pa_nil) (star_cons hs)) (by decide) (by decide) (star_cons hs)) fun σ H Q ⟨μ, f, S, R, L, z⟩ => ?_
  refine lift_bind R L (Good := GoodE G σ μ H Q) z (fun _ _ _ z => z) (fun z => z) fun d S1 v H1 μ1 e1 x1 R1 i1 h1 => ?_
  unfold isiD at h1
  cases q : isTys S1 d [t] with
  | none => rw [q] at h1; exact h1.elim
  | some b =>
    rw [q] at h1
    have r := isi_own R1 T i1 hc ht (isi_one q) (Q := Q) (h1 _ H1 μ1 x1 R1 rfl)
    rw [k] at r
    exact r
end
end SL
set_option Elab.async false
set_option linter.all false
set_option maxRecDepth 100000
set_option maxHeartbeats 1000000
/-! B2d: a field of a kept error, read (not yet in the check). -/
namespace SL
open PySem PySem.Spec L2
theorem fname_inj {n m : Nat} (hn : n < 2) (hm : m < 2) (h : fname n = fname m) : n = m := by
  have : ∀ n, n < 2 → ∀ m, m < 2 → fname n = fname m → n = m := by decide
  exact this n hn m hm h
section
variable {X : Cx} {G : Gx}
theorem FsIs.get {K : PySem.W.Frag} {μ : Mu} {H : Hp} {n : Nat} (hn : n < 2) : ∀ {fs : List (Nat × D)} {fv : List (Str × V)} {d : D}, (∀ p ∈ fs, p.1 < 2) → FsIs K μ H fs fv → fs.lookup n = some d → ∃ v, fv.lookup (fname n) = some v ∧ Is K μ H d v
  | [], _, _, _, _, h => by cases h
  | (m, e) :: fs, fv, d, hs, ff, h => by
    obtain ⟨v, r, ef, i, t⟩ := ff
    subst ef
    have hm : m < 2 := hs _ List.mem_cons_self
    by_cases q : n = m
    · subst q
      simp at h
      subst h
      exact ⟨v, by simp, i⟩
    · have ne : ¬ fname n = fname m := fun z => q (fname_inj hn hm z)
      have nb : (n == m) = false := by simpa using q
      have nf : (fname n == fname m) = false := by simpa using ne
      simp only [List.lookup, nb] at h
      obtain ⟨w, h1, h2⟩ := FsIs.get hn (fun p hp => hs p (List.mem_cons_of_mem _ hp)) t h
      exact ⟨w, by simp only [List.lookup, nf]; exact h1, h2⟩
/-- e.f, e a name that holds a kept error -/
theorem fe_xfld {y : Str} {py pos : Pos} {n : Nat} {ta : FS → Sto → Out D} (k : G.K = X.K) (T : ClsOk G.K G.C) (hn : n < 2) (hno : ∀ c, c < 15 → PySem.W.findIn G.K (.ref (G.C c)) (fname n) = some none) (he : PE X (.Name y py) (lift G ta)) :
    PE X (.Attribute (.Name y py) (fname n) pos) (lift G fun f S => (ta f S).bind fun x S => xfldD n x S) := by
  refine ⟨fun pins s σ H Q I ⟨μ, f, S, R, L, z⟩ => ?_⟩
  have l : lift G ta σ H (fun x H1 => ∃ μ1 S1 d, Ext μ H μ1 H1 ∧ RepS G.K G.C μ1 S1 H1 ∧ Is G.K μ1 H1 d x ∧ GoodE G σ μ1 H1 Q (xfldD n d S1)) :=
    lift_bind R L (Good := GoodE G σ μ H Q) z (fun _ _ _ z => z) (fun z => z) fun d S1 v H1 μ1 e1 x1 R1 i1 h1 => ⟨μ1, S1, d, x1, R1, i1, GoodE.mono x1 h1⟩
  refine attr_of rfl (thn (he.run pins s σ H _ I l) fun u s1 ⟨x, H1, I1, r1, μ1, S1, d, x1, R1, i1, g⟩ => ?_)
  cases d with
  | ref j =>
    dsimp only [xfldD] at g
    cases e0 : S1[j]? with
    | none => simp only [e0] at g; exact g.elim
    | some o =>
      simp only [e0] at g
      cases o with
      | lst _ => exact g.elim
      | ins _ _ => exact g.elim
      | dct _ _ => exact g.elim
      | exc c fs =>
        dsimp only at g
        split at g
        · rename_i hcc
          obtain ⟨hc, hx⟩ := hcc
          cases q : fs.lookup n with
          | none => simp only [q] at g; exact g.elim
          | some d0 =>
            simp only [q] at g
            obtain ⟨a, rfl, m, dd, hq, xi⟩ := R1.at i1 e0
            cases fs with
            | nil => cases q
            | cons f0 fr =>
              obtain ⟨p, fv, rfl, np, hp, ff⟩ := xi
              obtain ⟨v, hv, iv⟩ := FsIs.get hn hx ff q
              obtain ⟨⟨oe, vs, g1, ⟨z1, z2⟩, g3⟩, _⟩ := I1.hok a _ hq
              obtain ⟨mA, hns, hr⟩ := I1.hok p _ hp
              obtain ⟨od, ho, hl⟩ := lookIn_ns hns
              obtain ⟨w, hw, rw'⟩ := RelO.some_of (v := v) (o := mA (fname n)) (by rw [← hv]; exact hr (fname n))
              obtain rfl : u = Value.ref a := r1
              have J : PySem.W.InstAt s1.heap a oe (G.C c) (some od) := ⟨g1, z1, by unfold PySem.W.notCls; rw [g3], by rw [z2]; exact ho⟩
              have TT := T.exc c hc
              have nn := hno c hc
              rw [k] at TT nn
              exact HandSPX.exc_get I1.kIn J TT.hg TT.hk TT.hs (PySem.W.findObj_own TT.hd nn rfl (by rw [hl, hw])) (handed_of rw') ⟨v, H1, I1.tok _, rw', g v H1 μ1 Ext.refl R1 iv⟩
        · exact g.elim
  | _ => exact g.elim
end
end SL
set_option Elab.async false
set_option linter.all false
set_option maxRecDepth 100000
set_option maxHeartbeats 1000000
/-! B2e: raise of an own error that keeps a field. -/
namespace SL
open PySem PySem.Spec PyProof.Rows L2
theorem and2 {a b : Bool} (h : (a && b) = true) : a = true ∧ b = true := by rwa [Bool.and_eq_true] at h
/-- what such an __init__ promises -/
def iSp (K : PySem.W.Frag) (C : Addr) (f : Str) : Sp := fun vs H Q _ => ∃ (a : Addr) (v : V), vs = [.ref a, v] ∧ H a = some (exo a C none) ∧
  ∀ dx, H dx = none → dx ≠ a → KZ K (upd (upd H dx (exd dx [(f, v)])) a (exo a C (some dx))) → Q .non (upd (upd H dx (exd dx [(f, v)])) a (exo a C (some dx)))
/-- def __init__(s, y): s.f = y -/
def initB (f : Str) (ps : List Str) (body : List Stmt) (scope : Scope) : Bool := match body with
  | [.Assign [.Attribute (.Name s _) g _] (.Name y _) _] => decide (ps = [s, y]) && (decide (g = f) && (decide (s ≠ y) && ((!(s == ("__debug__" : Str)) && !(s == ("__classdict__" : Str))) && ((!(y == ("__debug__" : Str)) && !(y == ("__classdict__" : Str))) && (decide (scope.names.lookup s = some .local) && decide (scope.names.lookup y = some .local))))))
  | _ => false
section
variable {P : Program} {w : World} {K : PySem.W.Frag} {mg : Str → Option Value} {base : Heap} {C fI : Addr} {f : Str}
theorem init_ok {nm qual : Str} {params : Arguments} {body : List Stmt} {scope : Scope} {fd : FuncData} {ps : List Str} (D : FunD K nm qual params body scope [] [] fI fd) (Sc : FnScope ps ps scope) (hb : initB f ps body scope = true) (T : OexC K C) (hno : PySem.W.findIn K (.ref C) f = some none) :
    FnOk P w K mg base (L2.CX P w) 1 fI fd ps (iSp K C f) := by
  unfold initB at hb
  split at hb
  · rename_i s p1 g p2 y p3 p4
    obtain ⟨h1, k1⟩ := and2 hb
    obtain ⟨h2, k2⟩ := and2 k1
    obtain ⟨h3, k3⟩ := and2 k2
    obtain ⟨h4, k4⟩ := and2 k3
    obtain ⟨h5, k5⟩ := and2 k4
    obtain ⟨h6, h7⟩ := and2 k5
    have e1 := of_decide_eq_true h1
    have e2 := of_decide_eq_true h2
    have e6 := of_decide_eq_true h6
    have e7 := of_decide_eq_true h7
    subst e1 e2
    obtain ⟨oc, od, dV, kV, doc, pm, an, cdv, ct, osl, rfl, lk, hcd, _, _⟩ := D.ex
    refine fn_of (k := 0) lk hcd Sc (fun vs H Q E ⟨a, v, e, _⟩ => by rw [e]; rfl) fun A outer s0 H vs Q E hr ⟨a, v, e, ha, hq⟩ => ?_
    subst e
    rw [Bool.and_eq_true, Bool.not_eq_true', Bool.not_eq_true'] at h4 h5
    refine ⟨_, pss_one (PS.kno (ps_ost (pe_var (i := 0) rfl (.inl e6) h4.1 h4.2) (pe_var (i := 1) rfl (.inl e7) h5.1 h5.2))), ?_⟩
    refine ⟨v, rfl, .ref a, rfl, a, C, rfl, T, hno, .inl ⟨ha, fun dx hn hne => fun kz => hq dx hn hne kz⟩⟩
  · cases hb
end
section
variable {X : Cx} {G : Gx} {pos spos p1 : Pos} {e : Expr} {ta : FS → Sto → Out D}
theorem fs_raiseF {x : Str} {c j : Nat} {fI : Addr} {fd : FuncData} {ps : List Str} (k : G.K = X.K) (hc : X.calm = true) (tk : Takes X G.W) (T : OexC X.K (G.C c)) (iC : PySem.W.findIn X.K (.ref (G.C c)) "__init__" = some (some (.ref fI))) (tI : PySem.W.typeIn X.K (.ref fI) = some (.type "function"))
    (F1 : FnOk X.prog X.w X.K X.mg X.base (L2.CX X.prog X.w) 1 fI fd ps (iSp X.K (G.C c) (fname j))) (hr : Room 2 X.A) (hb : Binds X.K fd ps []) (hg : Gl X x) (hm : X.mg x = some (.ref (G.C c))) (hdb : (x == ("__debug__" : Str)) = false) (he : PE X e (lift G ta)) (hs : notStar e = true) :
    PS X (.Raise (some (.Call (.Name x p1) [e] [] pos)) none spos) (liftS G fun f S => (ta f S).so f fun d S => .exc c [(j, d)] f S) := by
  have hx : Passes (L2.CX X.prog X.w) X (fun _ _ _ => False) := fun pins σ H s e s' I h => by
    obtain ⟨_, _, _, _, _, _, _, _, _, _, _, _, z⟩ := h
    exact z.elim
  refine PS.imp (ps_raise hc tk (pmk_oex (CX := L2.CX X.prog X.w) (ds := []) (dvs := []) T iC tI F1 hr hb .nil hx hg hm (pa_cons he pa_nil (star_cons hs)) hdb (star_cons hs) (by rfl))) fun D' σ H ⟨μ, f, S, R, L, z⟩ => ?_
  refine s_bind R L z fun d S1 v H1 μ1 e1 x1 R1 i1 L1 g => ?_
  refine ⟨by simp, fun a na => ⟨a, v, rfl, upd_same, fun dx hn hne kz => ⟨rfl, dx, [(fname j, v)], upd_same, ?_, ?_, ?_⟩⟩⟩
  · rw [upd_ne hne, upd_same]
  · rw [upd_ne hne] at hn
    exact hn
  · rw [upd_ne hne] at hn
    have e0 : upd (del (upd (upd (upd H1 a (exo a (G.C c) none)) dx (exd dx [(fname j, v)])) a (exo a (G.C c) (some dx))) a) dx (.xd [(fname j, v)]) = upd H1 dx (.xd [(fname j, v)]) := by
      funext b
      by_cases hb1 : b = dx
      · subst hb1; rw [upd_same, upd_same]
      · rw [upd_ne hb1, upd_ne hb1]
        by_cases hb2 : b = a
        · subst hb2; rw [del_same]; exact na.symm
        · rw [del_ne hb2, upd_ne hb2, upd_ne hb1, upd_ne hb2]
    rw [e0]
    have kz1 := R1.kz
    have kz2 : KZ G.K (upd H1 dx (.xd [(fname j, v)])) := by
      refine ⟨fun b o q => ?_, fun b xs q => ?_, fun b xs q => ?_, fun b o xs q => ?_, fun b o xs q => ?_, fun b kvs q => ?_⟩
      · rw [k] at q
        have z := kz.hk b o q
        have hbd : b ≠ dx := fun e => by
          subst e
          rw [upd_ne hne, upd_same] at z
          cases z
        rw [upd_ne hbd]
        exact kz1.hk b o (by rw [k]; exact q)
      all_goals
        by_cases hbd : b = dx
        · subst hbd; rw [upd_same] at q; cases q
        · rw [upd_ne hbd] at q
          first
            | exact kz1.hl b _ q
            | exact kz1.ht b _ q
            | exact kz1.fl b _ _ q
            | exact kz1.ft b _ _ q
            | exact kz1.hd b _ q
    have x2 : Ext μ1 H1 μ1 (upd H1 dx (.xd [(fname j, v)])) := ext_alloc R1.toRep0 hn
    refine g σ _ μ1 (some dx) x2 (R1.toRep0.alloc hn kz2) (L1.mono R1.toRep0 x2) ⟨dx, [(fname j, v)], rfl, R1.toRep0.notin hn, upd_same, v, [], rfl, i1.mono R1.toRep0 x2, rfl⟩
end
/-! ### what the module must say -/
def oexB (K : PySem.W.Frag) (C : Addr) : Bool := (match K.lookup C with
  | some ⟨.type "type", _, .cls cd, sl⟩ => (match cd.mro, sl.toList with
    | .ref C' :: bm, [_, _, _, _, some (.builtin n), _] => C' == C && (n == "ValueError.__new__" && (!cd.hasDel && (cd.hasDict && HandSPX.refsVE bm)))
    | _, _ => false)
  | _ => false) && (decide (PySem.W.findIn K (.ref C) "__setattr__" = some (some (.builtin "object.__setattr__"))) && (decide (PySem.W.subIn K (.ref C) (.type "BaseException") = some true) && (decide (PySem.W.typeIn K (.ref C) = some (.type "type")) && PySem.W.keepIn K (.ref C))))
theorem oex_ok {K : PySem.W.Frag} {C : Addr} (h : oexB K C = true) : OexC K C := by
  unfold oexB at h
  obtain ⟨q, k1⟩ := and2 h
  obtain ⟨h2, k2⟩ := and2 k1
  obtain ⟨h3, k3⟩ := and2 k2
  obtain ⟨h4, h5⟩ := and2 k3
  refine ⟨?_, of_decide_eq_true h2, of_decide_eq_true h3, of_decide_eq_true h4, h5⟩
  split at q
  · rename_i dd cd sl ho
    split at q
    · rename_i C' bm u0 u1 u2 u3 n u5 hm hs
      simp only [Bool.and_eq_true, beq_iff_eq, Bool.not_eq_true'] at q
      obtain ⟨rfl, rfl, hdel, hdict, hbm⟩ := q
      obtain ⟨nm, bs, mro, ns, qn, hd, sn, sub, ab, col, del⟩ := cd
      dsimp only at hm hdel hdict
      subst hm hdel hdict
      have hsl : sl = #[u0, u1, u2, u3, some (.builtin "ValueError.__new__"), u5] := by
        obtain ⟨l⟩ := sl
        simp only at hs
        rw [hs]
      subst hsl
      exact ⟨nm, qn, ns, bs, bm, sn, sub, ab, col, dd, u0, u1, u2, u3, u5, ho, hbm⟩
    · cases q
  · cases q
end SL
set_option Elab.async false
set_option linter.all false
set_option maxRecDepth 100000
set_option maxHeartbeats 1000000
/-! B2b: what is never reached; {}; the keys of a dict; a, b = x, y. -/
namespace SL
open PySem PySem.Spec L2
section
variable {X : Cx} {G : Gx} {e : Expr} {pos spos : Pos}
theorem fe_never : PE X e (lift G fun _ _ => .bad) := ⟨fun pins s σ H Q I ⟨_, _, _, _, _, z⟩ => z.elim⟩
theorem ft_never : PT X e (liftT G fun _ _ => .bad) := ⟨fun pins s σ H Q I ⟨_, _, _, _, _, z⟩ => z.elim⟩
theorem fw_never : PW X e (liftT G fun _ _ => .bad) := ⟨fun wh pins s σ H Q I ⟨_, _, _, _, _, z⟩ => z.elim⟩
theorem fs_never {st : Stmt} : PS X st (liftS G fun _ _ => .bad) := ⟨fun pins s σ H D I ⟨_, _, _, _, _, z⟩ => z.elim⟩
theorem fe_dnew (k : G.K = X.K) : PE X (.Dict [] [] pos) (lift G fun _ S => dnewD S) := by
  refine PE.imp (PE.kno pe_dnewK) fun σ H Q ⟨μ, f, S, R, L, z⟩ p np kz => ?_
  rw [← k] at kz
  exact z _ _ (μ.push p) (ext_own np) (R.push np kz ⟨[], upd_same, rfl, rfl⟩) ⟨p, rfl, by simp [Mu.push, ← R.len]⟩
theorem wipe_one (σ : St) (j : Nat) : L2.wipe σ [j] = σ.set j none := rfl
theorem keys_isL {K : PySem.W.Frag} {μ : Mu} {H : Hp} : ∀ {ks : List DK} {kvs : List (Key × V)}, kvs.map (·.1) = ks.map keyOf → IsL K μ H (ks.map dkD) (kvs.map fun kv => kV kv.1)
  | [], kvs, e => by
    cases kvs with
    | nil => rfl
    | cons _ _ => cases e
  | k :: ks, kvs, e => by
    cases kvs with
    | nil => cases e
    | cons p kvs =>
      rw [List.map_cons, List.map_cons] at e
      injection e with e1 e2
      refine ⟨kV p.1, _, rfl, ?_, keys_isL e2⟩
      rw [e1]
      exact dkD_is k
theorem fe_keys {i j : Nat} {y dn : Str} {scope : Scope} {p1 p2 p3 : Pos} (k : G.K = X.K) (hc : X.calm = true) (hN : X.N.Nodup) (hd : X.N[i]? = some dn) (hv : Vis X.env.scope dn) (hd1 : (dn == ("__debug__" : Str)) = false) (hd2 : (dn == ("__classdict__" : Str)) = false) (ok : BlkOk X.N X.env.scope scope [(y, j)])
    (hg : ∀ (s : Shared) (H : Hp) (C : Addr) (cl : List (Str × Addr)) (fp : List Addr), TgOk (X.blk s H scope (compEnvC scope cl C X.env) fp) j y) (hy : ∀ (s : Shared) (H : Hp) (C : Addr) (cl : List (Str × Addr)) (fp : List Addr), Vis (X.blk s H scope (compEnvC scope cl C X.env) fp).env.scope y)
    (hy1 : (y == ("__debug__" : Str)) = false) (hy2 : (y == ("__classdict__" : Str)) = false) : PE X (.ListComp (.Name y p1) [⟨.Name y p2, .Name dn p3, [], 0⟩] scope pos) (lift G fun f S => keysV f i j S) := by
  refine PE.imp (PE.kno (pe_lock (pe_lc (wi := iKeys (tVar i)) (g := gName j) (tt := tYes) (te := tVar j) (own := [(y, j)]) hc hN (pi_keys (pe_var hd hv hd1 hd2)) ok (fun s H C cl fp => pg_name hN (hg s H C cl fp).1 (hg s H C cl fp).2.1 (hg s H C cl fp).2.2) (fun _ _ _ _ _ => pts_nil) (fun s H C cl fp => pe_var (hg s H C cl fp).1 (hy s H C cl fp) hy1 hy2)))) fun σ H Q ⟨μ, f, S, R, L, z⟩ => ?_
  unfold keysV at z
  dsimp only at z
  cases e1 : f[i]? with
  | none => rw [e1] at z; exact z.elim
  | some o =>
    rw [e1] at z
    cases o with
    | none => exact z.elim
    | some d =>
      dsimp only at z
      split at z
      · rename_i hj
        obtain ⟨v, ev, iv⟩ := L.at_ i d e1
        unfold keysD at z
        cases d with
        | ref n =>
          dsimp only at z
          cases e2 : S[n]? with
          | none => rw [e2] at z; exact z.elim
          | some ob =>
            rw [e2] at z
            cases ob with
            | dct ks ds =>
              dsimp only at z
              obtain ⟨a, rfl, hm, kvs, ha, ek, l⟩ := R.at iv e2
              refine ⟨a, .dK kvs, ha, trivial, fun od => ?_⟩
              refine ⟨.ref a, ev, a, od, rfl, .inl ⟨kvs, upd_same, fun D nD => ?_⟩⟩
              have hDa : D ≠ a := fun q => by rw [q, upd_same] at nD; cases nD
              have nD' : H D = none := by rw [upd_ne hDa] at nD; exact nD
              refine lc_it walk_keys (fun n H' => H' = upd (upd H a (.frz od (.dK kvs))) D (.lst ((kvs.take n).map fun kv => kV kv.1))) ?_ ?_ ?_ ?_
              · rfl
              · intro n H' _ e
                rw [e, upd_ne (Ne.symm hDa), upd_same]
              · intro n x H' H'' hlt e yy
                obtain ⟨rfl, kk, vv, hget, rfl⟩ := yy
                subst e
                show L2.wipe ((L2.wipe σ [j]).set j _) [j] = L2.wipe σ [j] ∧ _
                refine ⟨by rw [wipe_one, wipe_one, List.set_set, List.set_set], ?_⟩
                unfold tYes
                dsimp only
                rw [if_pos rfl]
                refine ⟨kV kk, by
                  show ((L2.wipe σ [j]).set j (some (kV kk)))[j]? = _
                  rw [wipe_one, List.set_set, List.getElem?_set_self (by rw [← L.len]; exact hj)], _, upd_same, ?_, ?_⟩
                · rw [List.length_map, List.length_take]
                  have := R.kz.hd a kvs ha
                  omega
                · show upd (upd _ D _) D _ = _
                  rw [upd_upd]
                  congr 2
                  rw [List.take_add_one, hget]
                  simp
              · intro H' e
                subst e
                refine ⟨by rw [upd_ne (Ne.symm hDa), upd_same], fun kz => ?_⟩
                have eH : upd (upd (upd H a (.frz od (.dK kvs))) D (.lst ((kvs.take kvs.length).map fun kv => kV kv.1))) a (.dK kvs) = upd H D (.lst (kvs.map fun kv => kV kv.1)) := by
                  rw [List.take_length]
                  funext b
                  by_cases hb : b = a
                  · subst hb
                    rw [upd_same, upd_ne (Ne.symm hDa)]
                    exact ha.symm
                  · rw [upd_ne hb]
                    by_cases hb2 : b = D
                    · subst hb2; rw [upd_same, upd_same]
                    · rw [upd_ne hb2, upd_ne hb, upd_ne hb2]
                rw [eH] at kz ⊢
                rw [← k] at kz
                have x := ext_alloc (o := .lst (kvs.map fun kv => kV kv.1)) R.toRep0 nD'
                exact z _ _ _ x (R.alloc nD' kz) ⟨D, _, rfl, R.notin nD', upd_same, keys_isL ek⟩
            | _ => exact z.elim
        | _ => exact z.elim
      · exact z.elim

/-! ### a, b = x, y -/
def starB : Expr → Bool
  | .Starred .. => true
  | _ => false
def nameS (sc : Scope) (line : Nat) : Expr → Option Str
  | .Name id pos => if sc.names.lookup id == some .local && pos.line == line then some id else none
  | _ => none
def parN (sc : Scope) (ts : List Expr) : List Str := ts.filterMap (nameS sc ((ts.head?.map (·.pos.line)).getD 0))
/-- the names that are stored from the right, or none -/
def parW (sc : Scope) (ts vs : List Expr) : Option (List Str) :=
  if (!(ts.length == 2 || ts.length == 3) || vs.length != ts.length) = true then none
  else if vs.any starB = true then none
  else if ((parN sc ts).length != ts.length || (parN sc ts).eraseDups.length != (parN sc ts).length) = true then none
  else if vs.all (foldedForSure 8) = true then none
  else some (parN sc ts)
def parBad (sc : Scope) (ts vs : List Expr) : Bool := (parW sc ts vs).isSome && vs.all (constantsAlone 8)
theorem par_stores {ts vs : List Expr} {kt kv : Nat} {pt pv : Pos} {env : Env} {sc : Scope} (hs : env.scope = sc) (hk : env.scope.kind = .function) (h : parBad sc ts vs = false) : swappedStores [.Tuple ts kt pt] (.Tuple vs kv pv) env = pure (parW sc ts vs) := by
  have hb : env.blockKind = .function := by unfold Env.blockKind; rw [hk]; rfl
  have ky : ∀ y, env.kindOf y = sc.names.lookup y := fun y => by unfold Env.kindOf; rw [hs]
  have hb2 : (env.blockKind != ScopeKind.function) = false := by rw [hb]; rfl
  unfold parBad at h
  unfold swappedStores
  simp only [hb2, ky, Bool.or_false]
  unfold parW at h ⊢
  split
  · rfl
  · rename_i h1
    rw [if_neg h1] at h
    split
    · rename_i h2
      have h2' : vs.any starB = true := h2
      rw [if_pos h2']
    · rename_i h2
      have h2' : ¬ vs.any starB = true := h2
      rw [if_neg h2'] at h ⊢
      split
      · rename_i h3
        have h3' : ((parN sc ts).length != ts.length || (parN sc ts).eraseDups.length != (parN sc ts).length) = true := h3
        rw [if_pos h3']
      · rename_i h3
        have h3' : ¬ ((parN sc ts).length != ts.length || (parN sc ts).eraseDups.length != (parN sc ts).length) = true := h3
        rw [if_neg h3'] at h ⊢
        split
        · rfl
        · rename_i h4
          rw [if_neg h4] at h
          simp only [Option.isSome_some, Bool.true_and] at h
          rw [if_neg (by rw [h]; decide)]
          rfl
theorem setAll_two {f : FS} {i j : Nat} {ds : List D} {f' : FS} (h : setAll f [i, j] ds = some f') : ∃ a b, ds = [a, b] ∧ f' = setAt (setAt f i a) j b := by
  have := setAll_len h
  match ds, this with
  | [a, b], _ => cases h; exact ⟨a, b, rfl, rfl⟩
theorem setAll_three {f : FS} {i j l : Nat} {ds : List D} {f' : FS} (h : setAll f [i, j, l] ds = some f') : ∃ a b c, ds = [a, b, c] ∧ f' = setAt (setAt (setAt f i a) j b) l c := by
  have := setAll_len h
  match ds, this with
  | [a, b, c], _ => cases h; exact ⟨a, b, c, rfl, rfl⟩
theorem fs_par2 {i j : Nat} {x y : Str} {a b : Expr} {t : FS → Sto → Out (List D)} {px py pt : Pos} {kt k2 : Nat} {pt2 : Pos} (hc : X.calm = true) (hN : X.N.Nodup) (hi : X.N[i]? = some x) (hj : X.N[j]? = some y) (hij : i ≠ j)
    (hx : X.env.scope.names.lookup x = some .local) (hy : X.env.scope.names.lookup y = some .local) (ha : PA X [a, b] (liftA G t)) (hw : swappedStores [.Tuple [.Name x px, .Name y py] kt pt] (.Tuple [a, b] k2 pt2) X.env = pure (some [x, y])) :
    PS X (.Assign [.Tuple [.Name x px, .Name y py] kt pt] (.Tuple [a, b] k2 pt2) spos) (liftS G fun f S => (t f S).so f fun ds S => parD f [i, j] ds S) := by
  refine PS.imp (ps_par hc hN hi hj hij hx hy ha hw) fun D' σ H ⟨μ, f, S, R, L, z⟩ => ?_
  refine sA_bind R L z fun ds S1 vs H1 μ1 e1 x1 R1 i1 L1 g => ?_
  unfold parD at g
  cases e2 : setAll f [i, j] ds with
  | none => rw [e2] at g; exact g.elim
  | some f' =>
    rw [e2] at g
    obtain ⟨d1, d2, rfl, rfl⟩ := setAll_two e2
    obtain ⟨v, w, rfl, j1, j2⟩ := isL_two i1
    exact ⟨v, w, rfl, g _ H1 μ1 Ext.refl R1 ((L1.set j1).set j2)⟩
theorem isL_three {K : PySem.W.Frag} {μ : Mu} {H : Hp} {d e c : D} {xs : List V} (i : IsL K μ H [d, e, c] xs) : ∃ v u w, xs = [v, u, w] ∧ Is K μ H d v ∧ Is K μ H e u ∧ Is K μ H c w := by
  obtain ⟨v, r, rfl, i1, i⟩ := i
  obtain ⟨u, w, rfl, i2, i3⟩ := isL_two i
  exact ⟨v, u, w, rfl, i1, i2, i3⟩
theorem fs_par3 {i j l : Nat} {x y z : Str} {a b c : Expr} {t : FS → Sto → Out (List D)} {px py pz pt : Pos} {kt k2 : Nat} {pt2 : Pos} (hc : X.calm = true) (hN : X.N.Nodup) (hi : X.N[i]? = some x) (hj : X.N[j]? = some y) (hl : X.N[l]? = some z) (hij : i ≠ j) (hil : i ≠ l) (hjl : j ≠ l)
    (hx : X.env.scope.names.lookup x = some .local) (hy : X.env.scope.names.lookup y = some .local) (hz : X.env.scope.names.lookup z = some .local) (ha : PA X [a, b, c] (liftA G t)) (hw : swappedStores [.Tuple [.Name x px, .Name y py, .Name z pz] kt pt] (.Tuple [a, b, c] k2 pt2) X.env = pure (some [x, y, z])) :
    PS X (.Assign [.Tuple [.Name x px, .Name y py, .Name z pz] kt pt] (.Tuple [a, b, c] k2 pt2) spos) (liftS G fun f S => (t f S).so f fun ds S => parD f [i, j, l] ds S) := by
  refine PS.imp (ps_par3 hc hN hi hj hl hij hil hjl hx hy hz ha hw) fun D' σ H ⟨μ, f, S, R, L, q⟩ => ?_
  refine sA_bind R L q fun ds S1 vs H1 μ1 e1 x1 R1 i1 L1 g => ?_
  unfold parD at g
  cases e2 : setAll f [i, j, l] ds with
  | none => rw [e2] at g; exact g.elim
  | some f' =>
    rw [e2] at g
    obtain ⟨d1, d2, d3, rfl, rfl⟩ := setAll_three e2
    obtain ⟨v, u, w, rfl, j1, j2, j3⟩ := isL_three i1
    exact ⟨v, u, w, rfl, g _ H1 μ1 Ext.refl R1 (((L1.set j1).set j2).set j3)⟩
/-- not stored from the right: a tuple is made and taken apart -/
theorem par_asg {is : List Nat} {t : FS → Sto → Out (List D)} (hl : is.length ≤ 3) (D' : Ends) (σ : St) (H : Hp) (z : liftS G (fun f S => (t f S).so f fun ds S => parD f is ds S) D' σ H) :
    liftS G (fun f S => ((t f S).bind fun ds S => if ds.length ≤ sz then .ok (.tup ds) S else .bad).so f fun d S => asgD (.tup is) f d S) D' σ H := by
  obtain ⟨μ, f, S, R, L, z⟩ := z
  refine ⟨μ, f, S, R, L, ?_⟩
  dsimp only at z ⊢
  cases e : t f S with
  | exc c fs S' => rw [e] at z; exact z
  | bad => rw [e] at z; exact z
  | ok ds S1 =>
    rw [e] at z
    simp only [Out.ok_bind, Out.so_ok] at z ⊢
    unfold parD at z
    cases e2 : setAll f is ds with
    | none => rw [e2] at z; exact z.elim
    | some f' =>
      rw [e2] at z
      have := setAll_len e2
      rw [if_pos (show ds.length ≤ sz by show _ ≤ 16777216; omega)]
      simp only [Out.so_ok]
      unfold asgD bindTg seqOf
      dsimp only
      rw [e2]
      exact z
end
end SL
set_option Elab.async false
set_option linter.all false
set_option maxRecDepth 100000
set_option maxHeartbeats 1000000
/-! B3: a check of a text against its meaning: expressions. -/
namespace SL
open PySem PySem.Spec L2

/-- what is known of the place of a text -/
structure Rc where
  N : List Str
  sc : Scope
  own : List Str
  allFn : Bool
  fn : List (Str × Nat)
  cl : List (Str × Nat)
  gl : List Nat
  full : Bool
  fnD : List (Str × Nat)
  ini : List Nat
def veL : List Value := [.type "ValueError", .type "Exception", .type "BaseException", .type "object"]
def bNames : List Str := ["len", "int", "str", "repr", "all", "any", "max", "min", "list", "tuple", "isinstance", "range", "bool", "ValueError", "zip"]
structure Cok (Φ : Nat → Option Def) (n : Nat) (R : Rc) (X : Cx) (G : Gx) : Prop where
  k : G.K = X.K
  N : X.N = R.N
  nd : X.N.Nodup
  sc : X.env.scope = R.sc
  calm : X.calm = true
  tk : Takes X G.W
  room : RoomG n X.A
  gd : X.A.guards = some []
  fnO : ∀ x, (x ∈ R.own ∨ R.allFn = true) → X.fn x = true
  blt : ∀ x ∈ bNames, X.mg x = none
  glo : ∀ i ∈ R.gl, ∃ d v u, gloD i = some d ∧ X.mg (gname i) = some u ∧ RelV v u ∧ ∀ μ H, Is G.K μ H d v
  fn : ∀ x g, R.fn.lookup x = some g → ∃ f fd ps, X.mg x = some (.ref f) ∧ PySem.W.keepIn X.K (.ref f) = true ∧ Binds X.K fd ps [] ∧ FnG X.prog X.w X.K X.mg X.base n f fd ps (spF Φ X.K G.C n g)
  fnD : ∀ x g, R.fnD.lookup x = some g → ∃ f fd ps a dus, X.mg x = some (.ref f) ∧ PySem.W.keepIn X.K (.ref f) = true ∧ Binds X.K fd ps dus ∧ Vals [.ref a] dus ∧ (∀ H, SqT X.K H a []) ∧ FnG X.prog X.w X.K X.mg X.base n f fd ps (spF Φ X.K G.C n g)
  cls : ∀ x c, R.cl.lookup x = some c → c < 15 ∧ X.mg x = some (.ref (G.C c)) ∧ PySem.W.keepIn X.K (.ref (G.C c)) = true ∧ Raises X (.ref (G.C c))
  clsOk : R.full = true → ClsOk G.K G.C
  mak : ∀ x c, R.cl.lookup x = some c → c < 13 → PySem.W.excIn X.K (G.C c) veL "ValueError.__new__" = true
  ini : ∀ c, c ∈ R.ini → OexC X.K (G.C c) ∧ ∃ fI fd ps, PySem.W.findIn X.K (.ref (G.C c)) "__init__" = some (some (.ref fI)) ∧ PySem.W.typeIn X.K (.ref fI) = some (.type "function") ∧ FnOk X.prog X.w X.K X.mg X.base (L2.CX X.prog X.w) 1 fI fd ps (iSp X.K (G.C c) (fname (c - 13))) ∧ Binds X.K fd ps []
def glB (sc : Scope) (x : Str) : Bool := decide (sc.names.lookup x = some .globalImplicit)
def visB (sc : Scope) (x : Str) : Bool := decide (sc.names.lookup x = some .local) || (decide (sc.names.lookup x = some .cell) || decide (sc.names.lookup x = some .free))
def nmB (x : Str) : Bool := !(x == ("__debug__" : Str)) && !(x == ("__classdict__" : Str)) && !(x == ("__name__" : Str))
def tgB (R : Rc) (i : Nat) (x : Str) : Bool := decide (R.N[i]? = some x) && (decide (R.sc.names.lookup x = some .local) || (decide (R.sc.names.lookup x = some .cell) && (R.allFn || decide (x ∈ R.own))))
def tgsB (R : Rc) : List Nat → List Str → Bool
  | [], [] => true
  | i :: is, x :: xs => tgB R i x && tgsB R is xs
  | _, _ => false
def cTg (R : Rc) (tg : Tg) (e : Expr) : Bool := match tg with
  | .name i => match e with
    | .Name x _ => tgB R i x
    | _ => false
  | .tup is => match e with
    | .Tuple es _ _ => match tgNames es with
      | some xs => tgsB R is xs
      | none => false
    | _ => false
section
variable {Φ : Nat → Option Def} {n : Nat} {R : Rc} {X : Cx} {G : Gx}
theorem gl_ok (C : Cok Φ n R X G) {x : Str} (h : glB R.sc x = true) : Gl X x := by
  unfold Gl Env.kindOf
  rw [C.sc]
  exact of_decide_eq_true h
theorem vis_ok (C : Cok Φ n R X G) {x : Str} (h : visB R.sc x = true) : Vis X.env.scope x := by
  rw [C.sc]
  unfold visB at h
  rw [Bool.or_eq_true, Bool.or_eq_true, decide_eq_true_eq, decide_eq_true_eq, decide_eq_true_eq] at h
  exact h
theorem nm_ok {x : Str} (h : nmB x = true) : (x == ("__debug__" : Str)) = false ∧ (x == ("__classdict__" : Str)) = false ∧ x ≠ "__name__" := by
  unfold nmB at h
  simp only [Bool.and_eq_true, Bool.not_eq_true'] at h
  exact ⟨h.1.1, h.1.2, fun e => by rw [e] at h; simp at h⟩
theorem tg_ok (C : Cok Φ n R X G) {i : Nat} {x : Str} (h : tgB R i x = true) : TgOk X i x := by
  unfold tgB at h
  simp only [Bool.and_eq_true, Bool.or_eq_true, decide_eq_true_eq] at h
  refine ⟨by rw [C.N]; exact h.1, ?_, ?_⟩
  · rw [C.sc]
    rcases h.2 with q | q
    · exact .inl q
    · exact .inr q.1
  · rcases h.2 with q | q
    · right; rw [C.sc]; exact q
    · left; exact C.fnO x (q.2.elim .inr .inl)
theorem tgs_ok (C : Cok Φ n R X G) : ∀ {is : List Nat} {xs : List Str}, tgsB R is xs = true → TgsOk X is xs
  | [], [], _ => trivial
  | [], _ :: _, h => by cases h
  | _ :: _, [], h => by cases h
  | i :: is, x :: xs, h => by
    unfold tgsB at h
    rw [Bool.and_eq_true] at h
    exact ⟨tg_ok C h.1, tgs_ok C h.2⟩
theorem cTg_ok (C : Cok Φ n R X G) {tg : Tg} {e : Expr} (h : cTg R tg e = true) : PG X e (gTg G.K tg) := by
  refine pg_tg C.k C.calm C.nd ?_
  unfold cTg at h
  cases tg with
  | name i =>
    cases e with
    | Name x p => exact tg_ok C h
    | _ => cases h
  | tup is =>
    cases e with
    | Tuple es kk p =>
      dsimp only at h
      cases q : tgNames es with
      | none => rw [q] at h; cases h
      | some xs => rw [q] at h; exact ⟨xs, q, tgs_ok C h⟩
    | _ => cases h
end

/-! ### blocks -/
def blkB (N : List Str) (sc scope : Scope) (own : List (Str × Nat)) : Bool := decide (scope.kind = .function) && (scope.names.all fun y => decide (scope.names.lookup y.1 = some y.2)) && (own.all fun p => decide (N[p.2]? = some p.1)) &&
  (scope.names.all fun y => if y.2 = .free then decide (sc.names.lookup y.1 = some .cell) || decide (sc.names.lookup y.1 = some .free) else true) && (scope.names.all fun y => if y.2 = .local ∨ y.2 = .cell then decide (y.1 ∈ own.map (·.1)) || decide (y.1 ∉ N) else true)
theorem blk_ok {N : List Str} {sc scope : Scope} {own : List (Str × Nat)} (h : blkB N sc scope own = true) : BlkOk N sc scope own := by
  unfold blkB at h
  simp only [Bool.and_eq_true, List.all_eq_true, decide_eq_true_eq] at h
  obtain ⟨⟨⟨⟨h1, h2⟩, h3⟩, h4⟩, h5⟩ := h
  refine ⟨h1, h2, h3, fun y hy e => ?_, fun y hy e => ?_⟩
  · have := h4 y hy
    rw [if_pos e] at this
    simpa using this
  · have := h5 y hy
    rw [if_pos e] at this
    simpa using this
def Rc.blk (R : Rc) (scope : Scope) : Rc := { R with sc := relS scope R.sc, own := (scope.names.filter fun y => decide (y.2 = .cell)).map (·.1), allFn := false }
theorem Cok.blk {Φ : Nat → Option Def} {n : Nat} {R : Rc} {X : Cx} {G : Gx} {scope : Scope} {own : List (Str × Nat)} (C : Cok Φ n R X G) (ok : BlkOk X.N X.env.scope scope own) (s : Shared) (H : Hp) (Ca : Addr) (cl : List (Str × Addr)) (fp : List Addr) : Cok Φ n (R.blk scope) (X.blk s H scope (compEnvC scope cl Ca X.env) fp) G.calm where
  k := C.k
  N := C.N
  nd := C.nd
  sc := by show relS scope X.env.scope = relS scope R.sc; rw [C.sc]
  calm := C.calm
  tk := fun _ _ ⟨_, _, _, _, _, _, _, _, _, _, _, _, _, _, _, _, w⟩ => w.elim
  room := C.room
  gd := C.gd
  fnO := fun x h => by
    show (scope.names.lookup x == some .cell) = true
    rcases h with h | h
    · obtain ⟨y, hy, rfl⟩ := List.mem_map.mp h
      obtain ⟨hy1, hy2⟩ := List.mem_filter.mp hy
      rw [ok.uniq y hy1, of_decide_eq_true hy2]
      rfl
    · cases h
  blt := C.blt
  glo := C.glo
  fn := C.fn
  fnD := C.fnD
  cls := fun x c h => let ⟨h1, h2, h3, h4⟩ := C.cls x c h; ⟨h1, h2, h3, h4⟩
  clsOk := C.clsOk
  mak := C.mak
  ini := C.ini

/-! ### the check -/
def opB (op : Bop) (o : Operator) : Bool := match op with
  | .add => decide (o = .Add)
  | .sub => decide (o = .Sub)
  | .mul => decide (o = .Mult)
  | .mod => decide (o = .Mod)
  | .fdiv => decide (o = .FloorDiv)
  | .pow => decide (o = .Pow)
def copA : Cop → CmpOp
  | .eq => .Eq
  | .ne => .NotEq
  | .lt => .Lt
  | .le => .LtE
  | .gt => .Gt
  | .ge => .GtE
  | .isin => .In
  | .notin => .NotIn
def bltS : Blt → Str
  | .len => "len"
  | .int => "int"
  | .str => "str"
  | .repr => "repr"
  | .all => "all"
  | .any => "any"
  | .max => "max"
  | .min => "min"
  | .list => "list"
  | .tuple => "tuple"
  | .sum => "sum"
def bltOk : Blt → Bool
  | .sum => false
  | _ => true
def mtS : Mt → Str
  | .join => "join"
  | .append => "append"
  | .count => "count"
  | .index => "index"
  | .insert => "insert"
  | .pop => "pop"
  | .find => "find"
  | .partition => "partition"
  | .split => "split"
def mtOk : Mt → Bool
  | .insert => false
  | .pop => false
  | _ => true
def cstB (d : D) (c : Const) : Bool := match d with
  | .non => match c with
    | .none => true
    | _ => false
  | .bl b => match c with
    | .bool b' => b == b'
    | _ => false
  | .int i => match c with
    | .int j => decide (i = j)
    | _ => false
  | .str x => match c with
    | .str y => decide ((⟨x.toArray⟩ : Str) = y)
    | _ => false
  | _ => false
def tyB (R : Rc) (t : Ty) (y : Str) : Bool := match t with
  | .str => y == "str"
  | .int => y == "int"
  | .bool => y == "bool"
  | .tup => y == "tuple"
  | .lst => y == "list"
  | .own c => R.full && decide (R.cl.lookup y = some c)
  | .ve => R.full && (y == "ValueError")
def tyIs1 : Ty → Bool
  | .own _ => false
  | .ve => false
  | _ => true

/-- may stand as a test -/
def tst : E → Bool
  | .and a b => tst a && tst b
  | .or a b => tst a && tst b
  | .not a => tst a
  | .ite _ _ _ => false
  | .neg _ => false
  | _ => true

def dnewB : Expr → Bool
  | .Dict [] [] _ => true
  | _ => false
def compOne : Expr → Option (Expr × Expr × Expr × List Expr × Scope)
  | .ListComp x [⟨tx, ix, ifs, 0⟩] scope _ => some (x, tx, ix, ifs, scope)
  | _ => none
def nameOf : Expr → Option Str
  | .Name y _ => some y
  | _ => none
def keysB (R : Rc) (i j : Nat) (e : Expr) : Bool := match compOne e with
  | some (x, tx, ix, [], scope) => match nameOf x, nameOf tx, nameOf ix with
    | some y, some y2, some d => decide (y = y2) && (decide (R.N[i]? = some d) && (visB R.sc d && (nmB d && (blkB R.N R.sc scope [(y, j)] && (tgB (R.blk scope) j y && (visB (R.blk scope).sc y && nmB y))))))
    | _, _, _ => false
  | _ => false
theorem compOne_eq {e x tx ix : Expr} {ifs : List Expr} {scope : Scope} (h : compOne e = some (x, tx, ix, ifs, scope)) : ∃ p, e = .ListComp x [⟨tx, ix, ifs, 0⟩] scope p := by
  unfold compOne at h
  split at h
  · cases h; exact ⟨_, rfl⟩
  · cases h
theorem nameOf_eq {e : Expr} {y : Str} (h : nameOf e = some y) : ∃ p, e = .Name y p := by
  unfold nameOf at h
  split at h
  · cases h; exact ⟨_, rfl⟩
  · cases h
def dkB (k : DK) (e : Expr) : Bool := match k with
  | .int i => match e with
    | .Constant (.int j) _ _ => decide (i = j)
    | .UnaryOp .USub (.Constant (.int j) _ _) _ => decide (i = -j)
    | _ => false
  | .str x => match e with
    | .Constant (.str y) _ _ => decide ((⟨x.toArray⟩ : Str) = y)
    | _ => false
def keysAll : List DK → List (Option Expr) → Bool
  | [], [] => true
  | k :: ks, some e :: es => dkB k e && keysAll ks es
  | _, _ => false
/-- a value that hangs on no heap -/
def valB (R : Rc) (e : E) (x : Expr) : Bool := match e with
  | .cst d => match x with
    | .Constant c _ _ => cstB d c
    | _ => false
  | .glo i => match x with
    | .Name y _ => (y == gname i) && (decide (i ∈ R.gl) && (glB R.sc y && nmB y))
    | _ => false
  | _ => false
def valsB (R : Rc) : Es → List Expr → Bool
  | .nil, [] => true
  | .cons e r, x :: xs => valB R e x && valsB R r xs
  | _, _ => false
def dispB (R : Rc) (ks : List DK) (vs : Es) (e : Expr) : Bool := match e with
  | .Dict keys values _ => keysAll ks keys && (valsB R vs values && (decide (keys ≠ []) && (decide (keys.length = values.length) && decide (keys.length ≤ 15))))
  | _ => false
mutual
def cE (R : Rc) : E → Expr → Bool
  | .var i, e => match e with
    | .Name x _ => decide (R.N[i]? = some x) && (visB R.sc x && nmB x)
    | _ => false
  | .cst d, e => match e with
    | .Constant c _ _ => cstB d c
    | _ => false
  | .glo i, e => match e with
    | .Name x _ => (x == gname i) && (decide (i ∈ R.gl) && (glB R.sc x && nmB x))
    | _ => false
  | .tup es, e => match e with
    | .Tuple xs _ _ => cEs R es xs
    | _ => false
  | .lst es, e => match e with
    | .List xs _ => cEs R es xs
    | _ => false
  | .newL es, e => match e with
    | .List xs _ => cEs R es xs
    | _ => false
  | .newC es, e => match e with
    | .Call (.Name f _) (x :: xs) [] _ => (f == "list") && (glB R.sc f && (noStars (x :: xs) && cEs R es (x :: xs)))
    | _ => false
  | .newP a b, e => match e with
    | .BinOp x o y _ => opB .add o && (cE R a x && cE R b y)
    | _ => false
  | .bin op a b, e => match e with
    | .BinOp x o y _ => opB op o && (cE R a x && cE R b y)
    | _ => false
  | .cmp op a b, e => match e with
    | .Compare x [o] [y] _ => decide (o = copA op) && (notSet y && (cE R a x && cE R b y))
    | _ => false
  | .isN a, e => match e with
    | .Compare x [.Is] [.Constant .none _ _] _ => cE R a x
    | _ => false
  | .notN a, e => match e with
    | .Compare x [.IsNot] [.Constant .none _ _] _ => cE R a x
    | _ => false
  | .isB b a, e => match e with
    | .Compare x [.Is] [.Constant (.bool b') _ _] _ => (b == b') && cE R a x
    | _ => false
  | .notB b a, e => match e with
    | .Compare x [.IsNot] [.Constant (.bool b') _ _] _ => (b == b') && cE R a x
    | _ => false
  | .and a b, e => match e with
    | .BoolOp .And [x, y] _ => cE R a x && cE R b y
    | .BoolOp .And (x :: y :: z :: r) p => cE R a x && cE R b (.BoolOp .And (y :: z :: r) p)
    | _ => false
  | .or a b, e => match e with
    | .BoolOp .Or [x, y] _ => cE R a x && cE R b y
    | .BoolOp .Or (x :: y :: z :: r) p => cE R a x && cE R b (.BoolOp .Or (y :: z :: r) p)
    | _ => false
  | .not a, e => match e with
    | .UnaryOp .Not x _ => cE R a x
    | _ => false
  | .neg a, e => match e with
    | .UnaryOp .USub x _ => cE R a x
    | _ => false
  | .ite c a b, e => match e with
    | .IfExp t x y _ => tst c && (cE R c t && (cE R a x && cE R b y))
    | _ => false
  | .sub a i, e => match e with
    | .Subscript x y _ => notSlice y && (cE R a x && cE R i y)
    | _ => false
  | .slc a lo hi, e => match e with
    | .Subscript x (.Slice l h none _) _ => cE R a x && (cB R lo l && cB R hi h)
    | _ => false
  | .call g es, e => match e with
    | .Call (.Name f _) (x :: xs) [] _ => decide (R.fn.lookup f = some g) && (glB R.sc f && (nmB f && (noStars (x :: xs) && cEs R es (x :: xs))))
    | _ => false
  | .callD g es, e => match e with
    | .Call (.Name f _) (x :: xs) [] _ => decide (R.fnD.lookup f = some g) && (glB R.sc f && (nmB f && (noStars (x :: xs) && cEs R es (x :: xs))))
    | _ => false
  | .blt b es, e => match e with
    | .Call (.Name f _) (x :: xs) [] _ => (f == bltS b) && (bltOk b && (glB R.sc f && (noStars (x :: xs) && cEs R es (x :: xs))))
    | _ => false
  | .isi a [t], e => match e with
    | .Call (.Name f _) [x, .Name y _] [] _ => (f == "isinstance") && (glB R.sc f && (glB R.sc y && (nmB y && (tyB R t y && (notStar x && cE R a x)))))
    | _ => false
  | .isi a [t, u], e => match e with
    | .Call (.Name f _) [x, .Tuple [.Name y _, .Name z _] _ _] [] _ => (f == "isinstance") && (glB R.sc f && (glB R.sc y && (glB R.sc z && (nmB y && (nmB z && (tyIs1 t && (tyIs1 u && (tyB R t y && (tyB R u z && (notStar x && cE R a x))))))))))
    | _ => false
  | .isi _ _, _ => false
  | .mth m o es, e => match e with
    | .Call (.Attribute x f ap) (y :: ys) [] cp => (f == mtS m) && (mtOk m && (plainBase x && ((ap.endLine == cp.line) && (noStars (y :: ys) && (decide ((y :: ys).length < 30) && (cE R o x && cEs R es (y :: ys)))))))
    | _ => false
  | .fld n o, e => match e with
    | .Attribute (.Name y py) f _ => (f == fname n) && (decide (n < 2) && (R.full && cE R o (.Name y py)))
    | _ => false
  | .comp elt tg it cond own, e => match e with
    | .ListComp x [⟨tx, ix, ifs, 0⟩] scope _ => blkB R.N R.sc scope (own.map fun i => ((R.N[i]?).getD "", i)) && (decide (∀ i ∈ tgSlots tg, i ∈ own) && (notSet ix && (cI R it tx ix && (cTg (R.blk scope) tg tx && (cC (R.blk scope) cond ifs && cE (R.blk scope) elt x)))))
    | _ => false
  | .never, _ => true
  | .dnew, e => dnewB e
  | .keys i j, e => keysB R i j e
  | .disp ks vs, e => dispB R ks vs e
  | .dget o a d, e => match e with
    | .Call (.Attribute x f ap) [y, z] [] cp => (f == "get") && (plainBase x && ((ap.endLine == cp.line) && (notStar y && (notStar z && (cE R o x && (cE R a y && cE R d z))))))
    | _ => false
def cEs (R : Rc) : Es → List Expr → Bool
  | .nil, xs => match xs with
    | [] => true
    | _ => false
  | .cons e r, xs => match xs with
    | x :: xs => notStar x && (cE R e x && cEs R r xs)
    | _ => false
  | .star e r, xs => match xs with
    | .Starred x _ :: xs => cE R e x && cEs R r xs
    | _ => false
def cB (R : Rc) : Oe → Option Expr → Bool
  | .no, x => match x with
    | none => true
    | _ => false
  | .yes e, x => match x with
    | some x => cE R e x
    | _ => false
def cC (R : Rc) : Oe → List Expr → Bool
  | .no, x => match x with
    | [] => true
    | _ => false
  | .yes e, x => match x with
    | [x] => tst e && cE R e x
    | _ => false
def cI (R : Rc) : It → Expr → Expr → Bool
  | .val e, _, x => cE R e x
  | .range1 a, _, e => match e with
    | .Call (.Name f _) [x] [] _ => (f == "range") && (glB R.sc f && (notStar x && cE R a x))
    | _ => false
  | .zip a b, tg, e => isTupT tg && match e with
    | .Call (.Name f _) [x, y] [] _ => (f == "zip") && (glB R.sc f && (notStar x && (notStar y && (cE R a x && cE R b y))))
    | _ => false
  | .range2 a b, _, e => match e with
    | .Call (.Name f _) [x, y] [] _ => (f == "range") && (glB R.sc f && (notStar x && (notStar y && (cE R a x && cE R b y))))
    | _ => false
end
end SL
set_option Elab.async false
set_option linter.all false
set_option maxRecDepth 100000
set_option maxHeartbeats 1000000
/-! B3c: displays of dicts, get, stars in displays. -/
namespace SL
open PySem PySem.Spec L2
section
variable {X : Cx} {G : Gx} {e : Expr} {es : List Expr} {pos p : Pos}
theorem fa_star {te : FS → Sto → Out D} {t : FS → Sto → Out (List D)} (k : G.K = X.K) (he : PE X e (lift G te)) (hr : PA X es (liftA G t)) : PA X (.Starred e p :: es) (liftA G fun f S => (te f S).bind fun d S => starD t f d S) := by
  refine PA.imp (StX.pa_star he hr) fun σ H Q ⟨μ, f, S, R, L, z⟩ => ?_
  refine lift_bind R L (Good := GoodA G σ μ H Q) z (fun _ _ _ z => z) (fun z => z) fun d S1 v H1 μ1 e1 x1 R1 i1 h1 => ?_
  unfold starD at h1
  cases e2 : seqOf S1 d with
  | none => rw [e2] at h1; exact h1.elim
  | some xs =>
    rw [e2] at h1
    obtain ⟨a, vs, rfl, hq, l⟩ := R1.seq i1 e2
    rw [← k]
    refine ⟨a, vs, rfl, hq.symm, ?_⟩
    refine liftA_bind R1 (L.mono R.toRep0 x1) (Good := GoodA G σ μ1 H1 Q) (GoodA.mono x1 h1) (fun _ _ _ z => z) (fun z => z) fun ds S2 us H2 μ2 e3 x2 R2 i2 h2 => ?_
    exact h2 _ H2 μ2 x2 R2 ((l.mono R1.toRep0 x2).append i2)
theorem fe_dget {o a d : Expr} {to ta td : FS → Sto → Out D} {apos cpos : Pos} (k : G.K = X.K) (hu : X.A.units + 1 < cLine) (ho : PE X o (lift G to)) (ha : PE X a (lift G ta)) (hd : PE X d (lift G td)) (hb : plainBase o = true) (hl : (apos.endLine == cpos.line) = true) (h1 : notStar a = true) (h2 : notStar d = true) :
    PE X (.Call (.Attribute o "get" apos) [a, d] [] cpos) (lift G fun f S => (to f S).bind fun x S => dgetX ta td f x S) := by
  have tr : backTo cpos (starEach [a, d] X.env) = [(false, eval a X.env), (false, eval d X.env)] := by rw [star_cons h1, star_cons h2]; rfl
  have m : M2 X o "get" apos a d cpos := ⟨base_ok hb, by rw [tr]; rfl, hl, tr⟩
  refine PE.imp (pe_dget2 hu ho ha hd m) fun σ H Q ⟨μ, f, S, R, L, z⟩ => ?_
  refine lift_bind R L (Good := GoodE G σ μ H Q) z (fun _ _ _ z => z) (fun z => z) fun x S1 v H1 μ1 e1 x1 R1 i1 g1 => ?_
  unfold dgetX at g1
  cases q1 : dictOf S1 x with
  | none => rw [q1] at g1; exact g1.elim
  | some kd =>
    rw [q1] at g1
    obtain ⟨ks, ds⟩ := kd
    obtain ⟨b, kvs, rfl, hb1, _, _⟩ := dict_at R1 i1 q1
    refine ⟨b, rfl, .inl ⟨kvs, .inl hb1⟩, ?_⟩
    refine lift_bind R1 (L.mono R.toRep0 x1) (Good := GoodE G σ μ1 H1 Q) (GoodE.mono x1 g1) (fun _ _ _ z => z) (fun z => z) fun y S2 vy H2 μ2 e2 x2 R2 i2 g2 => ?_
    refine lift_bind R2 ((L.mono R.toRep0 x1).mono R1.toRep0 x2) (Good := GoodE G σ μ2 H2 Q) (GoodE.mono x2 g2) (fun _ _ _ z => z) (fun z => z) fun w S3 vw H3 μ3 e3 x3 R3 i3 g3 => ?_
    have ix := (i1.mono R1.toRep0 x2).mono R2.toRep0 x3
    have iy := i2.mono R2.toRep0 x3
    cases q3 : dictOf S3 x with
    | none => rw [q3] at g3; exact g3.elim
    | some kd3 =>
      rw [q3] at g3
      obtain ⟨ks3, ds3⟩ := kd3
      obtain ⟨b3, kvs3, eb, h3, h4, h5⟩ := dict_at R3 ix q3
      cases eb
      unfold dgetD at g3
      cases q4 : dkOf y with
      | none => rw [q4] at g3; exact g3.elim
      | some kk =>
        rw [q4] at g3
        dsimp only at g3
        cases dkOf_is iy q4
        refine ⟨_, DGet.k h3, ?_⟩
        have hh := kvs_get (k := kk) h4 h5
        cases q5 : kGet ks3 ds3 kk with
        | none =>
          rw [q5] at hh g3
          rw [hh]
          exact g3 _ H3 μ3 x3 R3 i3
        | some r =>
          rw [q5] at hh g3
          obtain ⟨u, eu, iu⟩ := hh
          rw [eu]
          exact g3 _ H3 μ3 x3 R3 iu
end
/-! ### displays -/
theorem putK_end {kvs : List (Key × V)} {k : Key} {v : V} (h : k ∉ kvs.map (·.1)) : putK kvs k v = kvs ++ [(k, v)] := by
  unfold putK
  rw [if_neg]
  intro z
  rw [List.any_eq_true] at z
  obtain ⟨p, hp, e⟩ := z
  exact h (List.mem_map.mpr ⟨p, hp, of_decide_eq_true e⟩)
theorem mergeK_app : ∀ (more kvs : List (Key × V)), ((kvs ++ more).map (·.1)).Nodup → mergeK kvs more = kvs ++ more
  | [], kvs, _ => by simp [mergeK]
  | p :: r, kvs, h => by
    have e : mergeK kvs (p :: r) = mergeK (putK kvs p.1 p.2) r := rfl
    have hp : p.1 ∉ kvs.map (·.1) := by
      rw [List.map_append, List.nodup_append] at h
      intro hm
      exact h.2.2 _ hm _ (by simp) rfl
    rw [e, putK_end hp, mergeK_app r]
    · simp
    · simpa using h
section
variable {Φ : Nat → Option Def} {n : Nat} {R : Rc} {X : Cx} {G : Gx}
theorem const_v {d : D} {c : Const} {j : Nat} {p : Pos} (h : cstB d c = true) : ∃ v, PE X (.Constant c j p) (tC v) ∧ ∀ μ H, Is G.K μ H d v := by
  unfold cstB at h
  cases d with
  | non =>
    cases c with
    | none => exact ⟨_, pe_non, fun _ _ => rfl⟩
    | _ => cases h
  | bl b =>
    cases c with
    | bool b' =>
      have e : b = b' := by simpa using h
      subst e
      exact ⟨_, pe_bl, fun _ _ => rfl⟩
    | _ => cases h
  | int b =>
    cases c with
    | int b' =>
      have e : b = b' := of_decide_eq_true h
      subst e
      exact ⟨_, pe_int, fun _ _ => rfl⟩
    | _ => cases h
  | str b =>
    cases c with
    | str b' =>
      have e := of_decide_eq_true (show decide ((⟨b.toArray⟩ : Str) = b') = true from h)
      subst e
      exact ⟨_, pe_str, fun _ _ => rfl⟩
    | _ => cases h
  | _ => cases h
theorem val_v (C : Cok Φ n R X G) {e : E} {x : Expr} (h : valB R e x = true) (c : Nat → List D → Sto → Out D) : ∃ d v, PE X x (tC v) ∧ (∀ f S, evE c e f S = .ok d S) ∧ ∀ μ H, Is G.K μ H d v := by
  unfold valB at h
  cases e with
  | cst d =>
    cases x with
    | Constant cc j p =>
      obtain ⟨v, h1, h2⟩ := const_v (G := G) (X := X) (j := j) (p := p) h
      exact ⟨d, v, h1, fun f S => by unfold evE; rfl, h2⟩
    | _ => cases h
  | glo i =>
    cases x with
    | Name y p =>
      dsimp only at h
      simp only [Bool.and_eq_true, decide_eq_true_eq] at h
      obtain ⟨h1, h2, h3, h4⟩ := h
      have e1 := eq_of_beq h1
      subst e1
      obtain ⟨d, v, u, hd, hm, hr, hi⟩ := C.glo i h2
      obtain ⟨n1, _, _⟩ := nm_ok h4
      exact ⟨d, v, pe_glob (gl_ok C h3) hm hr n1, fun f S => by unfold evE; rw [hd], hi⟩
    | _ => cases h
  | _ => cases h
theorem key_v {k : DK} {e : Expr} (h : dkB k e = true) : PE X e (tC (kV (keyOf k))) := by
  unfold dkB at h
  cases k with
  | int i =>
    dsimp only at h
    split at h
    · have e := of_decide_eq_true h
      subst e
      exact pe_int
    · have e := of_decide_eq_true h
      subst e
      exact PE.imp (pe_un un_neg pe_int) fun σ H Q q => ⟨_, rfl, q⟩
    · cases h
  | str x =>
    dsimp only at h
    split at h
    · have e := of_decide_eq_true h
      subst e
      exact pe_str
    · cases h
theorem pairs_ok (C : Cok Φ n R X G) (c : Nat → List D → Sto → Out D) (pos : Pos) : ∀ (ks : List DK) (keys : List (Option Expr)) (vs : Es) (values : List Expr), keysAll ks keys = true → valsB R vs values = true → keys.length = values.length →
    ∃ (trs : List (TE × TE)) (ds : List D) (us : List V), PPs X pos keys values trs ∧ us.length = ks.length ∧ (∀ σ H Q, Q ((ks.zip us).map fun q => (kV (keyOf q.1), q.2)) H → tPairs trs σ H Q) ∧ (∀ f S, evEs c vs f S = .ok ds S) ∧ ∀ μ H, IsL G.K μ H ds us
  | [], [], .nil, [], _, _, _ => ⟨[], [], [], pps_nil, rfl, fun σ H Q q => q, fun f S => (by unfold evEs; rfl), fun _ _ => rfl⟩
  | k :: ks, some e :: keys, .cons v vs, x :: values, h1, h2, h3 => by
    have h1' : (dkB k e && keysAll ks keys) = true := h1
    have h2' : (valB R v x && valsB R vs values) = true := h2
    rw [Bool.and_eq_true] at h1' h2'
    obtain ⟨trs, ds, us, r1, r2, r3, r4, r5⟩ := pairs_ok C c pos ks keys vs values h1'.2 h2'.2 (by simpa using h3)
    obtain ⟨d, w, q1, q2, q3⟩ := val_v C h2'.1 c
    refine ⟨(tC (kV (keyOf k)), tC w) :: trs, d :: ds, w :: us, pps_cons (key_v h1'.1) q1 r1, by simp [r2], fun σ H Q q => r3 σ H _ q, fun f S => ?_, fun μ H => ⟨w, us, rfl, q3 μ H, r5 μ H⟩⟩
    unfold evEs
    rw [q2 f S, Out.ok_bind, r4 f S]
    rfl
  | [], some _ :: _, _, _, h1, _, _ => by cases h1
  | [], none :: _, _, _, h1, _, _ => by cases h1
  | _ :: _, [], _, _, h1, _, _ => by cases h1
  | _ :: _, none :: _, _, _, h1, _, _ => by cases h1
  | [], [], .nil, _ :: _, _, h2, _ => by cases h2
  | [], [], .cons _ _, [], _, h2, _ => by cases h2
  | [], [], .cons _ _, _ :: _, _, _, h3 => by cases h3
  | [], [], .star _ _, _, _, h2, _ => by cases h2
  | _ :: _, some _ :: _, .nil, [], _, _, h3 => by cases h3
  | _ :: _, some _ :: _, .nil, _ :: _, _, h2, _ => by cases h2
  | _ :: _, some _ :: _, .cons _ _, [], _, h2, _ => by cases h2
  | _ :: _, some _ :: _, .star _ _, _, _, h2, _ => by cases h2
theorem zip_fst : ∀ {ks : List DK} {us : List V}, us.length = ks.length → (((ks.zip us).map fun q => (keyOf q.1, q.2)).map (·.1) = ks.map keyOf) ∧ ((ks.zip us).map fun q => (keyOf q.1, q.2)).map (·.2) = us
  | [], [], _ => ⟨rfl, rfl⟩
  | [], _ :: _, h => by cases h
  | _ :: _, [], h => by cases h
  | k :: ks, u :: us, h => by
    obtain ⟨h1, h2⟩ := zip_fst (ks := ks) (us := us) (by simpa using h)
    exact ⟨by simp only [List.zip_cons_cons, List.map_cons, h1], by simp only [List.zip_cons_cons, List.map_cons, h2]⟩
theorem keysAll_len : ∀ {ks : List DK} {keys : List (Option Expr)}, keysAll ks keys = true → keys.length = ks.length ∧ keys.all (·.isSome) = true
  | [], [], _ => ⟨rfl, rfl⟩
  | [], _ :: _, h => by cases h
  | _ :: _, [], h => by cases h
  | _ :: _, none :: _, h => by cases h
  | k :: ks, some e :: keys, h => by
    have h' : (dkB k e && keysAll ks keys) = true := h
    rw [Bool.and_eq_true] at h'
    obtain ⟨h1, h2⟩ := keysAll_len h'.2
    exact ⟨by simp [h1], by simp [h2]⟩
theorem disp_ok (C : Cok Φ n R X G) (c : Nat → List D → Sto → Out D) {ks : List DK} {vs : Es} {x : Expr} (h : dispB R ks vs x = true) : PE X x (lift G fun f S => (evEs c vs f S).bind fun ds S => dispD ks ds S) := by
  unfold dispB at h
  cases x with
  | Dict keys values pos =>
    dsimp only at h
    simp only [Bool.and_eq_true, decide_eq_true_eq] at h
    obtain ⟨h1, h2, h3, h4, h5⟩ := h
    obtain ⟨trs, ds, us, r1, r2, r3, r4, r5⟩ := pairs_ok C c pos ks keys vs values h1 h2 h4
    obtain ⟨hl, hall⟩ := keysAll_len h1
    refine PE.imp (PE.kno (pe_disp r1 hall h4 h3 h5)) fun σ H Q ⟨μ, f, S, Rr, L, z⟩ p np => ?_
    dsimp only at z
    rw [r4 f S, Out.ok_bind] at z
    unfold dispD at z
    split at z
    · rename_i hc
      obtain ⟨c1, c2, c3⟩ := hc
      obtain ⟨z1, z2⟩ := zip_fst r2
      refine r3 σ _ _ ⟨upd_same, (ks.zip us).map fun q => (keyOf q.1, q.2), by simp [List.map_map, Function.comp_def], ?_, ?_⟩
      · rw [List.length_map, List.length_zip, r2, Nat.min_self]
        exact c2
      · rw [mergeK_app _ _ (by
          rw [List.nil_append, z1]
          unfold List.Nodup at c3 ⊢
          rw [List.pairwise_map]
          exact c3.imp fun {a b} q e => q (keyOf_inj e)), List.nil_append, upd_upd]
        intro kz
        rw [← C.k] at kz
        refine z _ _ _ (ext_alloc Rr.toRep0 np) (Rr.alloc np kz) ⟨p, _, rfl, Rr.notin np, upd_same, z1, ?_⟩
        rw [z2]
        exact r5 _ _
    · exact z.elim
  | _ => cases h
end
end SL
set_option Elab.async false
set_option linter.all false
set_option maxRecDepth 100000
set_option maxHeartbeats 4000000
/-! B4: the check of expressions is sound. -/
namespace SL
open PySem PySem.Spec L2
def isBO : Expr → Bool
  | .BoolOp _ _ _ => true
  | _ => false
def Jd (X : Cx) (G : Gx) (e : E) (x : Expr) (t : FS → Sto → Out D) : Prop := PE X x (lift G t) ∧ (tst e = true → PT X x (liftT G t) ∧ (isBO x = true → PW X x (liftT G t)))
section
variable {Φ : Nat → Option Def} {n : Nat} {R : Rc} {X : Cx} {G : Gx}
theorem Jd.val {e : E} {x : Expr} {t : FS → Sto → Out D} (h : PE X x (lift G t)) (hp : plainTest x = true) : Jd X G e x t := by
  refine ⟨h, fun _ => ⟨ft_val h hp, fun hb => ?_⟩⟩
  cases x <;> first | (cases hb; done) | (cases hp; done)
theorem units (C : Cok Φ n R X G) : X.A.units + 100 < cLine := by have := C.room.un; omega
theorem bin_op (C : Cok Φ n R X G) (op : Bop) (o : Operator) (h : opB op o = true) : OpR X (binaryOp o) (rD2 G.K G.C (binD op)) := by
  rw [C.k]
  cases op <;> (have e := of_decide_eq_true (show decide _ = true from h); subst e)
  · exact op_addD
  · exact op_subD
  · exact op_mulD
  · exact op_modD
  · exact op_fdivD
  · exact op_powD
theorem cat_op (C : Cok Φ n R X G) (o : Operator) (h : opB .add o = true) : OpR X (binaryOp o) (rD2 G.K G.C catD) := by
  rw [C.k]
  have e := of_decide_eq_true (show decide _ = true from h)
  subst e
  exact op_catD
theorem cmp_op (C : Cok Φ n R X G) (op : Cop) : OpR X (compareOp (copA op)) (rD2 G.K G.C (cmpD op)) := by
  rw [C.k]
  have u := units C
  cases op
  · exact op_eqDD (by omega)
  · exact op_neDD (by omega)
  · exact op_ltDD
  · exact op_leDD
  · exact op_gtDD
  · exact op_geDD
  · exact op_inDD (by omega)
  · exact op_notinDD (by omega)
theorem cst_ok {d : D} {c : Const} {j : Nat} {p : Pos} (h : cstB d c = true) : PE X (.Constant c j p) (lift G fun _ S => .ok d S) := by
  unfold cstB at h
  cases d with
  | non =>
    cases c with
    | none => exact fe_const pe_non fun _ _ => rfl
    | _ => cases h
  | bl b =>
    cases c with
    | bool b' =>
      have e : b = b' := by simpa using h
      subst e
      exact fe_const pe_bl fun _ _ => rfl
    | _ => cases h
  | int b =>
    cases c with
    | int b' =>
      have e : b = b' := of_decide_eq_true h
      subst e
      exact fe_const pe_int fun _ _ => rfl
    | _ => cases h
  | str b =>
    cases c with
    | str b' =>
      have e := of_decide_eq_true (show decide ((⟨b.toArray⟩ : Str) = b') = true from h)
      subst e
      exact fe_const pe_str fun _ _ => rfl
    | _ => cases h
  | _ => cases h
variable {x : Expr} {xs : List Expr} {t : FS → Sto → Out (List D)} {pos p : Pos}
theorem boot_len' : bootBuiltins "len" = some (.builtin "len") := by decide +kernel
theorem boot_all' : bootBuiltins "all" = some (.builtin "all") := by decide +kernel
theorem boot_any' : bootBuiltins "any" = some (.builtin "any") := by decide +kernel
theorem boot_ve' : bootBuiltins "ValueError" = some (.type "ValueError") := by decide +kernel
theorem blt_ok (C : Cok Φ n R X G) {b : Blt} {f : Str} (hf : (f == bltS b) = true) (hb : bltOk b = true) (hg : glB R.sc f = true) (hs : noStars (x :: xs) = true) (ha : PA X (x :: xs) (liftA G t)) : PE X (.Call (.Name f p) (x :: xs) [] pos) (lift G fun f S => (t f S).bind fun ds S => bltD b ds S) := by
  have e : f = bltS b := by simpa using hf
  subst e
  have g := gl_ok C hg
  have u := units C
  have hm : ∀ s : Str, s ∈ bNames → X.mg s = none := C.blt
  have k := C.k
  cases b with
  | str => exact fe_bty (by rw [k]; exact bl_str C.gd (by omega)) g (hm _ (by decide)) PyProof.Rows.boot_str ha hs (by decide) (by decide)
  | sum => cases hb
  | len => exact fe_blt (by rw [k]; exact bl_len) g (hm _ (by decide)) boot_len' ha hs (by decide) (by decide)
  | int => exact fe_bty (by rw [k]; exact bl_int) g (hm _ (by decide)) PyProof.Rows.boot_int ha hs (by decide) (by decide)
  | repr => exact fe_blt (by rw [k]; exact bl_repr C.gd (by omega)) g (hm _ (by decide)) PyProof.Rows.boot_repr ha hs (by decide) (by decide)
  | all => exact fe_blt (by rw [k]; exact bl_all C.calm) g (hm _ (by decide)) boot_all' ha hs (by decide) (by decide)
  | any => exact fe_blt (by rw [k]; exact bl_any C.calm) g (hm _ (by decide)) boot_any' ha hs (by decide) (by decide)
  | max => exact fe_blt (by rw [k]; exact bl_max C.calm) g (hm _ (by decide)) PyProof.Rows.boot_max ha hs (by decide) (by decide)
  | min => exact fe_blt (by rw [k]; exact bl_min C.calm) g (hm _ (by decide)) PyProof.Rows.boot_min ha hs (by decide) (by decide)
  | list => exact fe_bty (by rw [k]; exact bl_list) g (hm _ (by decide)) PyProof.Rows.boot_list ha hs (by decide) (by decide)
  | tuple => exact fe_bty (by rw [k]; exact bl_tuple) g (hm _ (by decide)) PyProof.Rows.boot_tuple ha hs (by decide) (by decide)
theorem mth_ok (C : Cok Φ n R X G) {m : Mt} {f : Str} {o : Expr} {ta : FS → Sto → Out D} {ap cp : Pos} (hf : (f == mtS m) = true) (hm : mtOk m = true) (hb : plainBase o = true) (hl : (ap.endLine == cp.line) = true) (hs : noStars (x :: xs) = true) (h30 : decide ((x :: xs).length < 30) = true) (ho : PE X o (lift G ta)) (ha : PA X (x :: xs) (liftA G t)) :
    PE X (.Call (.Attribute o f ap) (x :: xs) [] cp) (lift G fun f S => (ta f S).bind fun x S => mthX m t f x S) := by
  have e : f = mtS m := by simpa using hf
  subst e
  have u := units C
  cases m with
  | join => exact fe_mth C.k F.plainAttrs_str F.slot_str_join (by kernel_rfl) mt_joinD rfl ho ha hb hl hs h30
  | append => exact fe_mth C.k F.plainAttrs_list F.slot_list_append (by kernel_rfl) mt_appendD rfl ho ha hb hl hs h30
  | count => exact fe_mth C.k F.plainAttrs_list F.slot_list_count (by kernel_rfl) (mt_countD (by omega)) rfl ho ha hb hl hs h30
  | index => exact fe_mth C.k F.plainAttrs_list F.slot_list_index (by kernel_rfl) (mt_indexDD (by omega)) rfl ho ha hb hl hs h30
  | insert => cases hm
  | pop => cases hm
  | find => exact fe_mth C.k F.plainAttrs_str F.slot_str_find (by kernel_rfl) mt_findD rfl ho ha hb hl hs h30
  | partition => exact fe_mth C.k F.plainAttrs_str F.slot_str_partition (by kernel_rfl) mt_partD rfl ho ha hb hl hs h30
  | split => exact fe_mth C.k F.plainAttrs_str F.slot_str_split (by kernel_rfl) mt_splitD rfl ho ha hb hl hs h30
theorem ty1_ok (C : Cok Φ n R X G) {t : Ty} {y : Str} (h1 : tyIs1 t = true) (h : tyB R t y = true) : ∃ U, tyS t = some U ∧ X.mg y = none ∧ bootBuiltins y = some (.type U) := by
  have hm : ∀ s : Str, s ∈ bNames → X.mg s = none := C.blt
  cases t with
  | own _ => cases h1
  | ve => cases h1
  | str => have e : y = "str" := by simpa [tyB] using h
           subst e; exact ⟨"str", rfl, hm _ (by decide), PyProof.Rows.boot_str⟩
  | int => have e : y = "int" := by simpa [tyB] using h
           subst e; exact ⟨"int", rfl, hm _ (by decide), PyProof.Rows.boot_int⟩
  | bool => have e : y = "bool" := by simpa [tyB] using h
            subst e; exact ⟨"bool", rfl, hm _ (by decide), PyProof.Rows.boot_bool⟩
  | tup => have e : y = "tuple" := by simpa [tyB] using h
           subst e; exact ⟨"tuple", rfl, hm _ (by decide), PyProof.Rows.boot_tuple⟩
  | lst => have e : y = "list" := by simpa [tyB] using h
           subst e; exact ⟨"list", rfl, hm _ (by decide), PyProof.Rows.boot_list⟩
theorem isi_ok (C : Cok Φ n R X G) {t : Ty} {y : Str} {ta : FS → Sto → Out D} {q1 : Pos} (hf : glB R.sc "isinstance" = true) (hy : glB R.sc y = true) (hn : nmB y = true) (h : tyB R t y = true) (hs : notStar x = true) (ha : PE X x (lift G ta)) : PE X (.Call (.Name "isinstance" p) [x, .Name y q1] [] pos) (lift G fun f S => (ta f S).bind fun x S => isiD [t] x S) := by
  have hm : ∀ s : Str, s ∈ bNames → X.mg s = none := C.blt
  obtain ⟨n1, n2, n3⟩ := nm_ok hn
  by_cases h1 : tyIs1 t = true
  · obtain ⟨U, e1, e2, e3⟩ := ty1_ok C h1 h
    exact fe_isi1 C.k e1 ha hs (gl_ok C hf) (hm _ (by decide)) (gl_ok C hy) e2 e3 n3 n1
  · cases t with
    | own c =>
      obtain ⟨hfu, h⟩ := and2 h
      have e : R.cl.lookup y = some c := of_decide_eq_true h
      obtain ⟨l, m, _⟩ := C.cls y c e
      exact fe_isiC C.k (C.clsOk hfu) ha hs (gl_ok C hf) (hm _ (by decide)) (pe_glob (gl_ok C hy) m (show RelV (.ref (G.C c)) _ from rfl) n1) (.own _) (.inl ⟨c, rfl, l, rfl⟩)
    | ve =>
      obtain ⟨hfu, h⟩ := and2 h
      have e : y = "ValueError" := by simpa using h
      subst e
      exact fe_isiC C.k (C.clsOk hfu) ha hs (gl_ok C hf) (hm _ (by decide)) (pe_bltn (gl_ok C hy) (hm _ (by decide)) boot_ve' (show RelV (.ty "ValueError") _ from rfl) n3 n1) (.ty _) (.inr ⟨rfl, rfl⟩)
    | _ => exact absurd rfl h1
theorem isi2_ok (C : Cok Φ n R X G) {t u : Ty} {y z : Str} {ta : FS → Sto → Out D} {kk : Nat} {q1 q2 q3 : Pos} (hf : glB R.sc "isinstance" = true) (hy : glB R.sc y = true) (hz : glB R.sc z = true) (hn : nmB y = true) (hn2 : nmB z = true) (t1 : tyIs1 t = true) (u1 : tyIs1 u = true) (h : tyB R t y = true) (h2 : tyB R u z = true) (hs : notStar x = true) (ha : PE X x (lift G ta)) :
    PE X (.Call (.Name "isinstance" p) [x, .Tuple [.Name y q1, .Name z q2] kk q3] [] pos) (lift G fun f S => (ta f S).bind fun x S => isiD [t, u] x S) := by
  have hm : ∀ s : Str, s ∈ bNames → X.mg s = none := C.blt
  obtain ⟨n1, n2, n3⟩ := nm_ok hn
  obtain ⟨m1, m2, m3⟩ := nm_ok hn2
  obtain ⟨U, e1, e2, e3⟩ := ty1_ok C t1 h
  obtain ⟨W, w1, w2, w3⟩ := ty1_ok C u1 h2
  exact fe_isi2 C.k e1 w1 ha hs (gl_ok C hf) (hm _ (by decide)) (gl_ok C hy) e2 e3 n3 n1 (gl_ok C hz) w2 w3 m3 m1
theorem lst_shape {c : Nat → List D → Sto → Out D} {es : Es} (f : FS) (S : Sto) (d : D) (S' : Sto) (h : evE c (.lst es) f S = .ok d S') : ∃ ds, d = .lst ds := by
  unfold evE at h
  cases q : evEs c es f S with
  | ok ds S1 =>
    rw [q] at h
    simp only [Out.ok_bind] at h
    split at h
    · cases h; exact ⟨_, rfl⟩
    · cases h
  | exc _ _ _ => rw [q] at h; cases h
  | bad => rw [q] at h; cases h
theorem own_map {N : List Str} (own : List Nat) : (own.map fun i => ((N[i]?).getD ("" : Str), i)).map (·.2) = own := by
  induction own with
  | nil => rfl
  | cons a r ih => rw [List.map_cons, List.map_cons, ih]
end

theorem dnew_ok (C : Cok Φ n R X G) {x : Expr} (h : dnewB x = true) : Jd X G .dnew x (fun _ S => dnewD S) := by
  unfold dnewB at h
  split at h
  · exact Jd.val (fe_dnew C.k) rfl
  · cases h
theorem keys_ok (C : Cok Φ n R X G) {x : Expr} {i j : Nat} (h : keysB R i j x = true) : Jd X G (.keys i j) x (fun f S => keysV f i j S) := by
  unfold keysB at h
  split at h
  · rename_i x0 tx ix scope hc
    obtain ⟨p, rfl⟩ := compOne_eq hc
    split at h
    · rename_i y y2 d e1 e2 e3
      obtain ⟨p1, rfl⟩ := nameOf_eq e1
      obtain ⟨p2, rfl⟩ := nameOf_eq e2
      obtain ⟨p3, rfl⟩ := nameOf_eq e3
      obtain ⟨h0, h1⟩ := and2 h
      obtain ⟨h1, h2⟩ := and2 h1
      obtain ⟨h2, h3⟩ := and2 h2
      obtain ⟨h3, h4⟩ := and2 h3
      obtain ⟨h4, h5⟩ := and2 h4
      obtain ⟨h5, h6⟩ := and2 h5
      obtain ⟨h6, h7⟩ := and2 h6
      have e := of_decide_eq_true h0
      subst e
      have bk := blk_ok h4
      rw [← C.N, ← C.sc] at bk
      obtain ⟨n1, n2, _⟩ := nm_ok h3
      obtain ⟨m1, m2, _⟩ := nm_ok h7
      exact Jd.val (fe_keys C.k C.calm C.nd (by rw [C.N]; exact of_decide_eq_true h1) (vis_ok C h2) n1 n2 bk (fun s H Ca cl fp => tg_ok (C.blk bk s H Ca cl fp) h5) (fun s H Ca cl fp => vis_ok (C.blk bk s H Ca cl fp) h6) m1 m2) rfl
    · cases h
  · cases h
mutual
theorem sE (Φ : Nat → Option Def) (n : Nat) : ∀ (e : E) (x : Expr) (R : Rc) (X : Cx) (G : Gx), Cok Φ n R X G → cE R e x = true → Jd X G e x (evE (callN Φ n) e)
  | .var i, x, R, X, G, C, h => by
    unfold cE at h
    split at h
    · obtain ⟨h1, h2⟩ := and2 h
      obtain ⟨h2, h3⟩ := and2 h2
      obtain ⟨n1, n2, n3⟩ := nm_ok h3
      exact Jd.val (fe_var (by rw [C.N]; exact of_decide_eq_true h1) (vis_ok C h2) n1 n2) rfl
    · cases h
  | .cst d, x, R, X, G, C, h => by
    unfold cE at h
    split at h
    · exact Jd.val (cst_ok h) rfl
    · cases h
  | .glo i, x, R, X, G, C, h => by
    unfold cE at h
    split at h
    · obtain ⟨h1, h2⟩ := and2 h
      obtain ⟨h2, h3⟩ := and2 h2
      obtain ⟨h3, h4⟩ := and2 h3
      obtain ⟨n1, n2, n3⟩ := nm_ok h4
      obtain ⟨d, v, u, e1, e2, e3, e4⟩ := C.glo i (of_decide_eq_true h2)
      have e := eq_of_beq h1
      subst e
      have ev : evE (callN Φ n) (.glo i) = fun _ S => .ok d S := by
        funext f S
        unfold evE
        rw [e1]
      rw [ev]
      exact Jd.val (fe_const (pe_glob (gl_ok C h3) e2 e3 n1) e4) rfl
    · cases h
  | .tup es, x, R, X, G, C, h => by
    unfold cE at h
    split at h
    · exact Jd.val (fe_tup C.k (sEs Φ n es _ R X G C h)) rfl
    · cases h
  | .lst es, x, R, X, G, C, h => by
    unfold cE at h
    split at h
    · exact Jd.val (fe_ofN (lst_shape (es := es)) (fn_lst C.k (sEs Φ n es _ R X G C h))) rfl
    · cases h
  | .newL es, x, R, X, G, C, h => by
    unfold cE at h
    split at h
    · exact Jd.val (fe_new (fn_lst C.k (sEs Φ n es _ R X G C h))) rfl
    · cases h
  | .newC es, x, R, X, G, C, h => by
    unfold cE at h
    split at h
    · obtain ⟨h1, h2⟩ := and2 h
      obtain ⟨h2, h3⟩ := and2 h2
      obtain ⟨h3, h4⟩ := and2 h3
      have e := eq_of_beq h1
      subst e
      exact Jd.val (fe_new (fn_list C.k (gl_ok C h2) (C.blt _ (by decide)) PyProof.Rows.boot_list (sEs Φ n es _ R X G C h4) h3 (by decide) (by decide))) rfl
    · cases h
  | .newP a b, x, R, X, G, C, h => by
    unfold cE at h
    split at h
    · obtain ⟨h1, h2⟩ := and2 h
      obtain ⟨h2, h3⟩ := and2 h2
      exact Jd.val (fe_bin (cat_op C _ h1) catD_ne (sE Φ n a _ R X G C h2).1 (sE Φ n b _ R X G C h3).1) rfl
    · cases h
  | .bin op a b, x, R, X, G, C, h => by
    unfold cE at h
    split at h
    · obtain ⟨h1, h2⟩ := and2 h
      obtain ⟨h2, h3⟩ := and2 h2
      exact Jd.val (fe_bin (bin_op C op _ h1) (binD_ne op) (sE Φ n a _ R X G C h2).1 (sE Φ n b _ R X G C h3).1) rfl
    · cases h
  | .cmp op a b, x, R, X, G, C, h => by
    unfold cE at h
    split at h
    · obtain ⟨h1, h2⟩ := and2 h
      obtain ⟨h2, h3⟩ := and2 h2
      obtain ⟨h3, h4⟩ := and2 h3
      have e := of_decide_eq_true h1
      subst e
      exact ⟨fe_cmp (cmp_op C op) (cmpD_ne op) (sE Φ n a _ R X G C h3).1 (sE Φ n b _ R X G C h4).1 h2, fun _ => ⟨ft_cmp (cmp_op C op) (cmpD_ne op) (sE Φ n a _ R X G C h3).1 (sE Φ n b _ R X G C h4).1 h2, fun z => by cases z⟩⟩
    · cases h
  | .isN a, x, R, X, G, C, h => by
    unfold cE at h
    split at h
    · have r := (sE Φ n a _ R X G C h).1
      exact ⟨fe_isN r, fun _ => ⟨ft_isN r, fun z => by cases z⟩⟩
    · cases h
  | .notN a, x, R, X, G, C, h => by
    unfold cE at h
    split at h
    · have r := (sE Φ n a _ R X G C h).1
      exact ⟨fe_notN r, fun _ => ⟨ft_notN r, fun z => by cases z⟩⟩
    · cases h
  | .isB b a, x, R, X, G, C, h => by
    unfold cE at h
    split at h
    · obtain ⟨h1, h2⟩ := and2 h
      have e := eq_of_beq h1
      subst e
      have r := (sE Φ n a _ R X G C h2).1
      exact ⟨fe_isB r, fun _ => ⟨ft_isB r, fun z => by cases z⟩⟩
    · cases h
  | .notB b a, x, R, X, G, C, h => by
    unfold cE at h
    split at h
    · obtain ⟨h1, h2⟩ := and2 h
      have e := eq_of_beq h1
      subst e
      have r := (sE Φ n a _ R X G C h2).1
      exact ⟨fe_notB r, fun _ => ⟨ft_notB r, fun z => by cases z⟩⟩
    · cases h
  | .and a b, x, R, X, G, C, h => by
    unfold cE at h
    split at h
    · obtain ⟨h1, h2⟩ := and2 h
      have ra := sE Φ n a _ R X G C h1
      have rb := sE Φ n b _ R X G C h2
      refine ⟨fe_and ra.1 (pe_one rb.1), fun ht => ?_⟩
      obtain ⟨t1, t2⟩ := and2 ht
      exact ⟨(fw_and (ra.2 t1).1 (pw_and1 (rb.2 t2).1)).pt, fun _ => fw_and (ra.2 t1).1 (pw_and1 (rb.2 t2).1)⟩
    · obtain ⟨h1, h2⟩ := and2 h
      have ra := sE Φ n a _ R X G C h1
      have rb := sE Φ n b _ R X G C h2
      refine ⟨fe_and ra.1 rb.1, fun ht => ?_⟩
      obtain ⟨t1, t2⟩ := and2 ht
      exact ⟨(fw_and (ra.2 t1).1 ((rb.2 t2).2 rfl)).pt, fun _ => fw_and (ra.2 t1).1 ((rb.2 t2).2 rfl)⟩
    · cases h
  | .or a b, x, R, X, G, C, h => by
    unfold cE at h
    split at h
    · obtain ⟨h1, h2⟩ := and2 h
      have ra := sE Φ n a _ R X G C h1
      have rb := sE Φ n b _ R X G C h2
      refine ⟨fe_or ra.1 (pe_one rb.1), fun ht => ?_⟩
      obtain ⟨t1, t2⟩ := and2 ht
      exact ⟨(fw_or (ra.2 t1).1 (pw_or1 (rb.2 t2).1)).pt, fun _ => fw_or (ra.2 t1).1 (pw_or1 (rb.2 t2).1)⟩
    · obtain ⟨h1, h2⟩ := and2 h
      have ra := sE Φ n a _ R X G C h1
      have rb := sE Φ n b _ R X G C h2
      refine ⟨fe_or ra.1 rb.1, fun ht => ?_⟩
      obtain ⟨t1, t2⟩ := and2 ht
      exact ⟨(fw_or (ra.2 t1).1 ((rb.2 t2).2 rfl)).pt, fun _ => fw_or (ra.2 t1).1 ((rb.2 t2).2 rfl)⟩
    · cases h
  | .not a, x, R, X, G, C, h => by
    unfold cE at h
    split at h
    · have ra := sE Φ n a _ R X G C h
      exact ⟨fe_not ra.1, fun ht => ⟨ft_not (ra.2 ht).1, fun z => by cases z⟩⟩
    · cases h
  | .neg a, x, R, X, G, C, h => by
    unfold cE at h
    split at h
    · exact ⟨fe_neg (sE Φ n a _ R X G C h).1, fun z => by cases z⟩
    · cases h
  | .ite c a b, x, R, X, G, C, h => by
    unfold cE at h
    split at h
    · obtain ⟨h1, h2⟩ := and2 h
      obtain ⟨h2, h3⟩ := and2 h2
      obtain ⟨h3, h4⟩ := and2 h3
      exact ⟨fe_ite ((sE Φ n c _ R X G C h2).2 h1).1 (sE Φ n a _ R X G C h3).1 (sE Φ n b _ R X G C h4).1, fun z => by cases z⟩
    · cases h
  | .sub a i, x, R, X, G, C, h => by
    unfold cE at h
    split at h
    · obtain ⟨h1, h2⟩ := and2 h
      obtain ⟨h2, h3⟩ := and2 h2
      exact Jd.val (fe_sub C.k (by have := units C; omega) (sE Φ n a _ R X G C h2).1 (sE Φ n i _ R X G C h3).1 h1) rfl
    · cases h
  | .slc a lo hi, x, R, X, G, C, h => by
    unfold cE at h
    split at h
    · obtain ⟨h1, h2⟩ := and2 h
      obtain ⟨h2, h3⟩ := and2 h2
      exact Jd.val (fe_slc C.k (sE Φ n a _ R X G C h1).1 (sB Φ n lo _ R X G C h2) (sB Φ n hi _ R X G C h3)) rfl
    · cases h
  | .call g es, x, R, X, G, C, h => by
    unfold cE at h
    split at h
    · obtain ⟨h1, h2⟩ := and2 h
      obtain ⟨h2, h3⟩ := and2 h2
      obtain ⟨h3, h4⟩ := and2 h3
      obtain ⟨h4, h5⟩ := and2 h4
      obtain ⟨n1, n2, n3⟩ := nm_ok h3
      obtain ⟨f, fd, ps, m1, m2, m3, m4⟩ := C.fn _ g (of_decide_eq_true h1)
      exact Jd.val (fe_call C.k m4 C.room C.gd (gl_ok C h2) m1 m2 m3 C.tk (sEs Φ n es _ R X G C h5) h4 n1) rfl
    · cases h
  | .callD g es, x, R, X, G, C, h => by
    unfold cE at h
    split at h
    · obtain ⟨h1, h2⟩ := and2 h
      obtain ⟨h2, h3⟩ := and2 h2
      obtain ⟨h3, h4⟩ := and2 h3
      obtain ⟨h4, h5⟩ := and2 h4
      obtain ⟨n1, n2, n3⟩ := nm_ok h3
      obtain ⟨f, fd, ps, a, dus, m1, m2, m3, m5, m6, m4⟩ := C.fnD _ g (of_decide_eq_true h1)
      exact Jd.val (fe_callD C.k m4 C.room C.gd (gl_ok C h2) m1 m2 m3 m5 m6 C.tk (sEs Φ n es _ R X G C h5) h4 n1) rfl
    · cases h
  | .blt b es, x, R, X, G, C, h => by
    unfold cE at h
    split at h
    · obtain ⟨h1, h2⟩ := and2 h
      obtain ⟨h2, h3⟩ := and2 h2
      obtain ⟨h3, h4⟩ := and2 h3
      obtain ⟨h4, h5⟩ := and2 h4
      exact Jd.val (blt_ok C h1 h2 h3 h4 (sEs Φ n es _ R X G C h5)) rfl
    · cases h
  | .isi a [], x, R, X, G, C, h => by cases h
  | .isi a [t], x, R, X, G, C, h => by
    unfold cE at h
    split at h
    · obtain ⟨h1, h2⟩ := and2 h
      obtain ⟨h2, h3⟩ := and2 h2
      obtain ⟨h3, h4⟩ := and2 h3
      obtain ⟨h4, h5⟩ := and2 h4
      obtain ⟨h5, h6⟩ := and2 h5
      obtain ⟨h6, h7⟩ := and2 h6
      have e := eq_of_beq h1
      subst e
      exact Jd.val (isi_ok C h2 h3 h4 h5 h6 (sE Φ n a _ R X G C h7).1) rfl
    · cases h
  | .isi a [t, u], x, R, X, G, C, h => by
    unfold cE at h
    split at h
    · obtain ⟨h1, h2⟩ := and2 h
      obtain ⟨h2, h3⟩ := and2 h2
      obtain ⟨h3, h4⟩ := and2 h3
      obtain ⟨h4, h5⟩ := and2 h4
      obtain ⟨h5, h6⟩ := and2 h5
      obtain ⟨h6, h7⟩ := and2 h6
      obtain ⟨h7, h8⟩ := and2 h7
      obtain ⟨h8, h9⟩ := and2 h8
      obtain ⟨h9, h10⟩ := and2 h9
      obtain ⟨h10, h11⟩ := and2 h10
      obtain ⟨h11, h12⟩ := and2 h11
      have e := eq_of_beq h1
      subst e
      exact Jd.val (isi2_ok C h2 h3 h4 h5 h6 h7 h8 h9 h10 h11 (sE Φ n a _ R X G C h12).1) rfl
    · cases h
  | .isi a (_ :: _ :: _ :: _), x, R, X, G, C, h => by cases h
  | .mth m o es, x, R, X, G, C, h => by
    unfold cE at h
    split at h
    · obtain ⟨h1, h2⟩ := and2 h
      obtain ⟨h2, h3⟩ := and2 h2
      obtain ⟨h3, h4⟩ := and2 h3
      obtain ⟨h4, h5⟩ := and2 h4
      obtain ⟨h5, h6⟩ := and2 h5
      obtain ⟨h6, h7⟩ := and2 h6
      obtain ⟨h7, h8⟩ := and2 h7
      exact Jd.val (mth_ok C h1 h2 h3 h4 h5 h6 (sE Φ n o _ R X G C h7).1 (sEs Φ n es _ R X G C h8)) rfl
    · cases h
  | .fld m o, x, R, X, G, C, h => by
    unfold cE at h
    split at h
    · obtain ⟨h1, h2⟩ := and2 h
      obtain ⟨h2, h3⟩ := and2 h2
      obtain ⟨h3, h4⟩ := and2 h3
      have e := eq_of_beq h1
      subst e
      have hm := of_decide_eq_true h2
      exact Jd.val (fe_xfld C.k (C.clsOk h3) hm (fun c hc => (C.clsOk h3).fno c hc m hm) (sE Φ n o _ R X G C h4).1) rfl
    · cases h
  | .comp elt tg it cond own, x, R, X, G, C, h => by
    unfold cE at h
    split at h
    · obtain ⟨h1, h2⟩ := and2 h
      obtain ⟨h2, h3⟩ := and2 h2
      obtain ⟨h3, h4⟩ := and2 h3
      obtain ⟨h4, h5⟩ := and2 h4
      obtain ⟨h5, h6⟩ := and2 h5
      obtain ⟨h6, h7⟩ := and2 h6
      have bk := blk_ok h1
      rw [← C.N, ← C.sc] at bk
      obtain ⟨tt, r1, r2⟩ := sC Φ n cond _ (R.blk _) G h6
      have r := fun p => fe_comp (pos := p) C.k C.calm C.nd (sI Φ n it _ _ R X G C h4) bk (fun s H Ca cl fp => cTg_ok (C.blk bk s H Ca cl fp) h5) (fun s H Ca cl fp => r1 _ (C.blk bk s H Ca cl fp)) r2 (fun s H Ca cl fp => (sE Φ n elt _ _ _ _ (C.blk bk s H Ca cl fp) h7).1) h3 (by rw [own_map]; exact of_decide_eq_true h2)
      simp only [own_map] at r
      exact Jd.val (r _) rfl
    · cases h
  | .never, x, R, X, G, C, h => ⟨fe_never, fun _ => ⟨ft_never, fun _ => fw_never⟩⟩
  | .dnew, x, R, X, G, C, h => dnew_ok C (by unfold cE at h; exact h)
  | .keys i j, x, R, X, G, C, h => keys_ok C (by unfold cE at h; exact h)
  | .disp ks vs, x, R, X, G, C, h => by
    unfold cE at h
    refine Jd.val (disp_ok C (callN Φ n) h) ?_
    unfold dispB at h
    cases x <;> first | rfl | cases h
  | .dget o a d, x, R, X, G, C, h => by
    unfold cE at h
    split at h
    · obtain ⟨h1, h2⟩ := and2 h
      obtain ⟨h2, h3⟩ := and2 h2
      obtain ⟨h3, h4⟩ := and2 h3
      obtain ⟨h4, h5⟩ := and2 h4
      obtain ⟨h5, h6⟩ := and2 h5
      obtain ⟨h6, h7⟩ := and2 h6
      obtain ⟨h7, h8⟩ := and2 h7
      have e := eq_of_beq h1
      subst e
      exact Jd.val (fe_dget C.k (by have := units C; omega) (sE Φ n o _ R X G C h6).1 (sE Φ n a _ R X G C h7).1 (sE Φ n d _ R X G C h8).1 h2 h3 h4 h5) rfl
    · cases h
theorem sEs (Φ : Nat → Option Def) (n : Nat) : ∀ (es : Es) (xs : List Expr) (R : Rc) (X : Cx) (G : Gx), Cok Φ n R X G → cEs R es xs = true → PA X xs (liftA G (evEs (callN Φ n) es))
  | .nil, xs, R, X, G, C, h => by
    unfold cEs at h
    split at h
    · exact fa_nil
    · cases h
  | .cons e r, xs, R, X, G, C, h => by
    unfold cEs at h
    split at h
    · obtain ⟨s1, h1⟩ := and2 h
      obtain ⟨h1, h2⟩ := and2 h1
      exact fa_cons (sE Φ n e _ R X G C h1).1 (sEs Φ n r _ R X G C h2) s1
    · cases h
  | .star e r, xs, R, X, G, C, h => by
    unfold cEs at h
    split at h
    · obtain ⟨h1, h2⟩ := and2 h
      exact fa_star C.k (sE Φ n e _ R X G C h1).1 (sEs Φ n r _ R X G C h2)
    · cases h
theorem sB (Φ : Nat → Option Def) (n : Nat) : ∀ (o : Oe) (x : Option Expr) (R : Rc) (X : Cx) (G : Gx), Cok Φ n R X G → cB R o x = true → PO X x (liftO G (evB (callN Φ n) o))
  | .no, x, R, X, G, C, h => by
    unfold cB at h
    split at h
    · exact fo_none
    · cases h
  | .yes e, x, R, X, G, C, h => by
    unfold cB at h
    split at h
    · exact fo_some (sE Φ n e _ R X G C h).1
    · cases h
theorem sC (Φ : Nat → Option Def) (n : Nat) : ∀ (o : Oe) (xs : List Expr) (R : Rc) (G : Gx), cC R o xs = true → ∃ tt : TT, (∀ X, Cok Φ n R X G.calm → PTs X xs tt) ∧ CondOk G tt (evO (callN Φ n) o)
  | .no, xs, R, G, h => by
    unfold cC at h
    split at h
    · exact ⟨tYes, fun X C => pts_nil, cond_none⟩
    · cases h
  | .yes e, xs, R, G, h => by
    unfold cC at h
    split at h
    · obtain ⟨h1, h2⟩ := and2 h
      exact ⟨_, fun X C => pts_one ((sE Φ n e _ R X G.calm C h2).2 h1).1, cond_some⟩
    · cases h
theorem sI (Φ : Nat → Option Def) (n : Nat) : ∀ (it : It) (x tg : Expr) (R : Rc) (X : Cx) (G : Gx), Cok Φ n R X G → cI R it tg x = true → PI X tg x (liftI G (evIt (callN Φ n) it))
  | .val e, x, tg, R, X, G, C, h => fi_val C.k (sE Φ n e x R X G C h).1
  | .range1 a, x, tg, R, X, G, C, h => by
    unfold cI at h
    split at h
    · obtain ⟨h1, h2⟩ := and2 h
      obtain ⟨h2, h3⟩ := and2 h2
      obtain ⟨h3, h4⟩ := and2 h3
      have e := eq_of_beq h1
      subst e
      exact fi_range1 (gl_ok C h2) (C.blt _ (by decide)) (sE Φ n a _ R X G C h4).1 h3
    · cases h
  | .range2 a b, x, tg, R, X, G, C, h => by
    unfold cI at h
    split at h
    · obtain ⟨h1, h2⟩ := and2 h
      obtain ⟨h2, h3⟩ := and2 h2
      obtain ⟨h3, h4⟩ := and2 h3
      obtain ⟨h4, h5⟩ := and2 h4
      obtain ⟨h5, h6⟩ := and2 h5
      have e := eq_of_beq h1
      subst e
      exact fi_range2 (gl_ok C h2) (C.blt _ (by decide)) (sE Φ n a _ R X G C h5).1 (sE Φ n b _ R X G C h6).1 h3 h4
    · cases h
  | .zip a b, x, tg, R, X, G, C, h => by
    unfold cI at h
    obtain ⟨h0, h⟩ := and2 h
    split at h
    · obtain ⟨h1, h2⟩ := and2 h
      obtain ⟨h2, h3⟩ := and2 h2
      obtain ⟨h3, h4⟩ := and2 h3
      obtain ⟨h4, h5⟩ := and2 h4
      obtain ⟨h5, h6⟩ := and2 h5
      have e := eq_of_beq h1
      subst e
      exact fi_zip C.k (gl_ok C h2) (C.blt _ (by decide)) (sE Φ n a _ R X G C h5).1 (sE Φ n b _ R X G C h6).1 h3 h4 h0
    · cases h
end
end SL
set_option Elab.async false
set_option linter.all false
set_option maxRecDepth 100000
set_option maxHeartbeats 4000000
/-! B5: the check of statements, and that it is sound. -/
namespace SL
open PySem PySem.Spec L2
structure CokS (Φ : Nat → Option Def) (n : Nat) (R : Rc) (X : Cx) (G : Gx) : Prop where
  c : Cok Φ n R X G
  kind : X.env.scope.kind = .function
  ps : PassesOwn (model X.prog X.w) X.A X.env X.xe
  ex : X.ex = []
  stk : X.stack = X.env :: X.outer
  frm : X.env.frame = some X.env.locals
def bothTup (t e : Expr) : Bool := match t with
  | .Tuple _ _ _ => match e with
    | .Tuple _ _ _ => true
    | _ => false
  | .List _ _ => match e with
    | .Tuple _ _ _ => true
    | _ => false
  | _ => false
/-- a comprehension stored at once -/
def swB (R : Rc) (t e : Expr) : Bool := match t with
  | .Name y py => match e with
    | .ListComp _ _ scope pos => decide (R.sc.names.lookup y = some .local) && ((py.line == pos.line) && !(scope.names.any fun (n, k) => n == y && (k == .local || k == .cell)))
    | _ => false
  | _ => false
def isLc : Expr → Bool
  | .ListComp _ _ _ _ => true
  | _ => false
section
variable {Φ : Nat → Option Def} {n : Nat} {R : Rc} {X : Cx} {G : Gx}
theorem sw_no {e : Expr} {t : Option Expr} {l : Nat} {env : Env} (h : notComp e = true) : swapsWith e t l env = pure false := by
  cases e <;> first | rfl | cases h
theorem sw_other {e t : Expr} {l : Nat} {env : Env} (hk : env.scope.kind = .function) (hs : env.scope = R.sc) (hl : (notComp e || isLc e) = true) (ht : cTg R (.name 0) t = true ∨ True) (h : swB R t e = false) : swapsWith e (some t) l env = pure false := by
  by_cases hc : notComp e = true
  · exact sw_no hc
  · cases e with
    | ListComp a gs scope pos =>
      cases t with
      | Name y py =>
        have hb : env.blockKind = .function := by unfold Env.blockKind; rw [hk]; rfl
        have ky : env.kindOf y = R.sc.names.lookup y := by unfold Env.kindOf; rw [hs]
        unfold swB at h
        dsimp only at h
        unfold swapsWith
        simp only [hb, ky, Expr.pos]
        show (pure (_ && _ && _ && _) : Sem Bool) = pure false
        congr 1
        rw [← h]
        cases q : R.sc.names.lookup y with
        | none => simp
        | some k => cases k <;> simp [Bool.and_assoc]
      | _ => rfl
    | _ => first | (exact absurd rfl hc) | (simp [notComp, isLc] at hl)
theorem stores_no {t e : Expr} {env : Env} (h : bothTup t e = false) : swappedStores [t] e env = pure none := by
  cases t <;> first | rfl | skip
  all_goals cases e <;> first | rfl | cases h
theorem each_one {R : Rc} {tg : Tg} {t : Expr} {env : Env} (h : cTg R tg t = true) : (assignEach [t] env).map (·.2) = [assign t env] := by
  cases tg <;> cases t <;> first | rfl | cases h
end

def notKeys : E → Bool
  | .keys _ _ => false
  | _ => true
mutual
def cS (R : Rc) : S → Stmt → Bool
  | .asg tg e, st => match st with
    | .Assign [t] x _ => cTg R tg t && (!bothTup t x && ((notComp x || isLc x) && (notKeys e && cE R e x)))
    | _ => false
  | .par is es, st => match st with
    | .Assign [.Tuple ts _ _] (.Tuple vs _ _) _ => !parBad R.sc ts vs && (decide (is.length ≤ 3) && (noStars vs && (cEs R es vs && (match tgNames ts with
      | some xs => tgsB R is xs && (match parW R.sc ts vs with
        | some ns => decide (ns = xs) && (decide is.Nodup && xs.all fun x => decide (R.sc.names.lookup x = some .local))
        | none => true)
      | none => false))))
    | _ => false
  | .never, _ => true
  | .put o i e, st => match st with
    | .Assign [.Subscript ox ix _] x _ => notComp x && (notSlice ix && (cE R e x && (cE R o ox && cE R i ix)))
    | _ => false
  | .aug i op e, st => match st with
    | .AugAssign (.Name y _) o x _ => opB op o && (tgB R i y && cE R e x)
    | _ => false
  | .augS o i op e, st => match st with
    | .AugAssign (.Subscript ox ix _) p x _ => opB op p && (notSlice ix && (cE R o ox && (cE R i ix && cE R e x)))
    | _ => false
  | .exp e, st => match st with
    | .Expr x _ => notComp x && cE R e x
    | _ => false
  | .ret e, st => match st with
    | .Return (some x) _ => cE R e x
    | _ => false
  | .ifs c a b, st => match st with
    | .If x xs ys _ => tst c && (cE R c x && (cSs R a xs && cSs R b ys))
    | _ => false
  | .whl c a, st => match st with
    | .While x xs [] _ => tst c && (cE R c x && cSs R a xs)
    | _ => false
  | .fors tg it a, st => match st with
    | .For t x xs [] _ => cTg R tg t && (notSet x && (cI R it t x && cSs R a xs))
    | _ => false
  | .brk, st => match st with
    | .Break _ => true
    | _ => false
  | .cont, st => match st with
    | .Continue _ => true
    | _ => false
  | .raise c es, st => match es with
    | .nil => match st with
      | .Raise (some (.Call (.Name x _) [.Constant (.str _) _ _] [] _)) none _ => decide (R.cl.lookup x = some c) && (decide (c < 13) && (glB R.sc x && nmB x))
      | _ => false
    | .cons e .nil => match st with
      | .Raise (some (.Call (.Name x _) [y] [] _)) none _ => decide (R.cl.lookup x = some c) && (decide (c = 13 ∨ c = 14) && (decide (c ∈ R.ini) && (glB R.sc x && (nmB x && (notStar y && cE R e y)))))
      | _ => false
    | _ => false
  | .trys a x e v, st => match st with
    | .Try xs [.ExceptHandler (some (.Name y _)) (some nm) [.Assign [.Name m _] (.Name n2 _) _] _] [] [] _ => R.full && (decide (x = 0) && (decide (R.cl.lookup y = some 0) && (glB R.sc y && (nmB y && (decide (nm = n2) && (decide (R.N[e]? = some nm) && (decide (R.N[v]? = some m) && (decide (R.sc.names.lookup nm = some .local) && (decide (R.sc.names.lookup m = some .local) && (nmB nm && cSs R a xs))))))))))
    | _ => false
def cSs (R : Rc) : Ss → List Stmt → Bool
  | .nil, st => match st with
    | [] => true
    | _ => false
  | .cons s r, st => match st with
    | x :: xs => cS R s x && cSs R r xs
    | _ => false
end
theorem opB_eq {op : Bop} {o : Operator} (h : opB op o = true) : o = opA op := by
  cases op <;> exact of_decide_eq_true (show decide _ = true from h)
theorem CokS.tr {Φ : Nat → Option Def} {n : Nat} {R : Rc} {X : Cx} {G : Gx} (C : CokS Φ n R X G) {W : WX} {pn : List (Addr × Obj)} {xe : Value → Shared → Prop} (tk : Takes (X.tr pn xe) W) (ps : PassesOwn (model X.prog X.w) X.A X.env xe) : CokS Φ n R (X.tr pn xe) ⟨G.K, G.C, W⟩ :=
  ⟨⟨C.c.k, C.c.N, C.c.nd, C.c.sc, C.c.calm, tk, C.c.room, C.c.gd, C.c.fnO, C.c.blt, C.c.glo, C.c.fn, C.c.fnD, fun x c h => let ⟨h1, h2, h3, h4⟩ := C.c.cls x c h; ⟨h1, h2, h3, h4⟩, C.c.clsOk, C.c.mak, C.c.ini⟩, C.kind, ps, C.ex, C.stk, C.frm⟩
theorem facts_ve : ExcBaseFacts "ValueError" "ValueError.__new__" "ValueError.__init__" veL := PySem.F.excBase_ValueError
theorem parW_len {sc : Scope} {ts vs : List Expr} {ns : List Str} (h : parW sc ts vs = some ns) : (ts.length = 2 ∨ ts.length = 3) ∧ vs.length = ts.length := by
  unfold parW at h
  split at h
  · cases h
  · rename_i h1
    simp at h1
    refine ⟨?_, h1.2⟩
    by_cases h2 : ts.length = 2
    · exact .inl h2
    · exact .inr (by have := h1.1 h2; exact this)
theorem two_names {ts : List Expr} {xs : List Str} (h : tgNames ts = some xs) (hl : ts.length = 2) : ∃ x p y q, ts = [.Name x p, .Name y q] ∧ xs = [x, y] := by
  match ts, hl with
  | [a, b], _ =>
    cases a <;> try (cases h; done)
    cases b <;> try (cases h; done)
    cases h
    exact ⟨_, _, _, _, rfl, rfl⟩
theorem three_names {ts : List Expr} {xs : List Str} (h : tgNames ts = some xs) (hl : ts.length = 3) : ∃ x p y q z r, ts = [.Name x p, .Name y q, .Name z r] ∧ xs = [x, y, z] := by
  match ts, hl with
  | [a, b, c], _ =>
    cases a <;> try (cases h; done)
    cases b <;> try (cases h; done)
    cases c <;> try (cases h; done)
    cases h
    exact ⟨_, _, _, _, _, _, rfl, rfl⟩
mutual
theorem sS (Φ : Nat → Option Def) (n : Nat) : ∀ (s : S) (st : Stmt) (R : Rc) (X : Cx) (G : Gx), CokS Φ n R X G → cS R s st = true → PS X st (liftS G (evS (callN Φ n) s))
  | .asg tg e, st, R, X, G, C, h => by
    unfold cS at h
    split at h
    · rename_i t x sp
      obtain ⟨h1, h2⟩ := and2 h
      obtain ⟨h2, h3⟩ := and2 h2
      obtain ⟨h3, h4⟩ := and2 h3
      obtain ⟨h5, h4⟩ := and2 h4
      have hb : bothTup t x = false := by simpa using h2
      have r := (sE Φ n e x R X G C.c h4).1
      by_cases hsw : swB R t x = true
      · cases t with
        | Name y py =>
          cases x with
          | ListComp elt gs scope pos =>
            obtain ⟨s1, s2⟩ := and2 hsw
            obtain ⟨s2, s3⟩ := and2 s2
            cases tg with
            | tup is => cases h1
            | name i =>
              have hy := (tg_ok C.c h1).1
              have ly : X.env.scope.names.lookup y = some .local := by rw [C.c.sc]; exact of_decide_eq_true s1
              cases e with
              | comp elt' tg' it cond own =>
                unfold cE at h4
                split at h4
                · rename_i heq
                  injection heq with q1 q2 q3 q4
                  subst q1 q2 q3 q4
                  obtain ⟨h1', h2⟩ := and2 h4
                  obtain ⟨h2, h3⟩ := and2 h2
                  obtain ⟨h3, h4⟩ := and2 h3
                  obtain ⟨h4, h5⟩ := and2 h4
                  obtain ⟨h5, h6⟩ := and2 h5
                  obtain ⟨h6, h7⟩ := and2 h6
                  have bk := blk_ok h1'
                  rw [← C.c.N, ← C.c.sc] at bk
                  obtain ⟨tt, r1, r2⟩ := sC Φ n cond _ (R.blk _) G h6
                  have r := fun pp sp' hsw' => fs_setLc (pos := pp) (spos := sp') (py := py) C.c.k C.c.calm C.c.nd hy ly hsw' (sI Φ n it _ _ R X G C.c h4) bk (fun s H Ca cl fp => cTg_ok (C.c.blk bk s H Ca cl fp) h5) (fun s H Ca cl fp => r1 _ (C.c.blk bk s H Ca cl fp)) r2 (fun s H Ca cl fp => (sE Φ n elt' _ _ _ _ (C.c.blk bk s H Ca cl fp) h7).1) h3 (by rw [own_map]; exact of_decide_eq_true h2)
                  simp only [own_map] at r
                  exact r _ _ (sw_true C.kind ly s2 (by simpa using s3))
                · cases h4
              | never => exact fs_never
              | keys _ _ => cases h5
              | isi a ts => match ts with
                | [] => cases h4
                | [_] => cases h4
                | [_, _] => cases h4
                | _ :: _ :: _ :: _ => cases h4
              | _ => cases h4
          | _ => cases hsw
        | _ => cases hsw
      · have hsw : swB R t x = false := by simpa using hsw
        exact fs_asg C.c.k r (cTg_ok C.c h1) (by unfold swapsWithSole; exact sw_other C.kind C.c.sc h3 (.inr trivial) hsw) (stores_no hb) (each_one h1)
    · cases h
  | .never, st, R, X, G, C, h => fs_never
  | .par is es, st, R, X, G, C, h => by
    unfold cS at h
    split at h
    · rename_i ts kt pt vs kv pv sp
      obtain ⟨h1, h2⟩ := and2 h
      obtain ⟨h2, h3⟩ := and2 h2
      obtain ⟨h3, h4⟩ := and2 h3
      obtain ⟨h4, h5⟩ := and2 h4
      have pb : parBad R.sc ts vs = false := by simpa using h1
      have sto := par_stores (kt := kt) (kv := kv) (pt := pt) (pv := pv) C.c.sc C.kind pb
      have pa := sEs Φ n es _ R X G C.c h4
      have cT : ∀ {xs : List Str}, tgNames ts = some xs → tgsB R is xs = true → cTg R (.tup is) (.Tuple ts kt pt) = true := fun {xs} e q => by
        unfold cTg
        dsimp only
        rw [e]
        exact q
      split at h5
      · rename_i xs hx
        obtain ⟨h6, h7⟩ := and2 h5
        split at h7
        · rename_i ns hw
          obtain ⟨h7, h8'⟩ := and2 h7
          obtain ⟨h8, h9⟩ := and2 h8'
          have e := of_decide_eq_true h7
          subst e
          rw [hw] at sto
          obtain ⟨hl, hv⟩ := parW_len hw
          have nd := of_decide_eq_true h8
          have tg := tgs_ok C.c h6
          rcases hl with hl | hl
          · obtain ⟨x, p, y, q, rfl, rfl⟩ := two_names hx hl
            match vs, hv with
            | [a, b], _ =>
              match is, tg, nd with
              | [i, j], ⟨t1, t2, _⟩, nd =>
                have lx : X.env.scope.names.lookup x = some .local := by rw [C.c.sc]; exact of_decide_eq_true (List.all_eq_true.mp h9 x (by simp))
                have ly : X.env.scope.names.lookup y = some .local := by rw [C.c.sc]; exact of_decide_eq_true (List.all_eq_true.mp h9 y (by simp))
                exact fs_par2 C.c.calm C.c.nd t1.1 t2.1 (by simpa using nd) lx ly pa sto
          · obtain ⟨x, p, y, q, z, r, rfl, rfl⟩ := three_names hx hl
            match vs, hv with
            | [a, b, c], _ =>
              match is, tg, nd with
              | [i, j, l], ⟨t1, t2, t3, _⟩, nd =>
                have lx : X.env.scope.names.lookup x = some .local := by rw [C.c.sc]; exact of_decide_eq_true (List.all_eq_true.mp h9 x (by simp))
                have ly : X.env.scope.names.lookup y = some .local := by rw [C.c.sc]; exact of_decide_eq_true (List.all_eq_true.mp h9 y (by simp))
                have lz : X.env.scope.names.lookup z = some .local := by rw [C.c.sc]; exact of_decide_eq_true (List.all_eq_true.mp h9 z (by simp))
                have nd' : (i ≠ j ∧ i ≠ l) ∧ j ≠ l := by simpa using nd
                exact fs_par3 C.c.calm C.c.nd t1.1 t2.1 t3.1 nd'.1.1 nd'.1.2 nd'.2 lx ly lz pa sto
        · rename_i hw
          rw [hw] at sto
          refine PS.imp (fs_asg (tg := .tup is) C.c.k (fe_tup C.c.k pa) (cTg_ok C.c (cT hx h6)) rfl sto (each_one (cT hx h6))) fun D' σ H z => par_asg (of_decide_eq_true h2) D' σ H z
      · cases h5
    · cases h
  | .put o i e, st, R, X, G, C, h => by
    unfold cS at h
    split at h
    · obtain ⟨h1, h2⟩ := and2 h
      obtain ⟨h2, h3⟩ := and2 h2
      obtain ⟨h3, h4⟩ := and2 h3
      obtain ⟨h4, h5⟩ := and2 h4
      exact fs_put C.c.k (by have := units C.c; omega) (sE Φ n e _ R X G C.c h3).1 (sE Φ n o _ R X G C.c h4).1 (sE Φ n i _ R X G C.c h5).1 (by unfold swapsWithSole; exact sw_no h1) h2 rfl
    · cases h
  | .aug i op e, st, R, X, G, C, h => by
    unfold cS at h
    split at h
    · obtain ⟨h1, h2⟩ := and2 h
      obtain ⟨h2, h3⟩ := and2 h2
      have e0 := opB_eq h1
      subst e0
      obtain ⟨t1, t2, t3⟩ := tg_ok C.c h2
      exact fs_aug C.c.nd t1 t2 t3 (sE Φ n e _ R X G C.c h3).1
    · cases h
  | .augS o i op e, st, R, X, G, C, h => by
    unfold cS at h
    split at h
    · obtain ⟨h1, h2⟩ := and2 h
      obtain ⟨h2, h3⟩ := and2 h2
      obtain ⟨h3, h4⟩ := and2 h3
      obtain ⟨h4, h5⟩ := and2 h4
      have e0 := opB_eq h1
      subst e0
      exact fs_augS C.c.k (by have := units C.c; omega) (sE Φ n o _ R X G C.c h3).1 (sE Φ n i _ R X G C.c h4).1 (sE Φ n e _ R X G C.c h5).1 h2
    · cases h
  | .exp e, st, R, X, G, C, h => by
    unfold cS at h
    split at h
    · obtain ⟨h1, h2⟩ := and2 h
      exact fs_exp (sE Φ n e _ R X G C.c h2).1 (sw_no h1)
    · cases h
  | .ret e, st, R, X, G, C, h => by
    unfold cS at h
    split at h
    · exact fs_ret (sE Φ n e _ R X G C.c h).1
    · cases h
  | .ifs c a b, st, R, X, G, C, h => by
    unfold cS at h
    split at h
    · obtain ⟨h1, h2⟩ := and2 h
      obtain ⟨h2, h3⟩ := and2 h2
      obtain ⟨h3, h4⟩ := and2 h3
      exact fs_if ((sE Φ n c _ R X G C.c h2).2 h1).1 (sSs Φ n a _ R X G C h3) (sSs Φ n b _ R X G C h4)
    · cases h
  | .whl c a, st, R, X, G, C, h => by
    unfold cS at h
    split at h
    · obtain ⟨h1, h2⟩ := and2 h
      obtain ⟨h2, h3⟩ := and2 h2
      exact fs_while C.ps ((sE Φ n c _ R X G C.c h2).2 h1).1 (sSs Φ n a _ R X G C h3)
    · cases h
  | .fors tg it a, st, R, X, G, C, h => by
    unfold cS at h
    split at h
    · obtain ⟨h1, h2⟩ := and2 h
      obtain ⟨h2, h3⟩ := and2 h2
      obtain ⟨h3, h4⟩ := and2 h3
      exact fs_for C.c.k C.ps C.c.calm (sI Φ n it _ _ R X G C.c h3) (cTg_ok C.c h1) (sSs Φ n a _ R X G C h4) h2
    · cases h
  | .brk, st, R, X, G, C, h => by
    unfold cS at h
    split at h
    · exact fs_brk
    · cases h
  | .cont, st, R, X, G, C, h => by
    unfold cS at h
    split at h
    · exact fs_cont
    · cases h
  | .raise c .nil, st, R, X, G, C, h => by
    unfold cS at h
    dsimp only at h
    split at h
    · obtain ⟨h1, h2⟩ := and2 h
      obtain ⟨h2, h3⟩ := and2 h2
      obtain ⟨h3, h4⟩ := and2 h3
      obtain ⟨c1, c2, c3, c4⟩ := C.c.cls _ c (of_decide_eq_true h1)
      have hc : c < 13 := of_decide_eq_true h2
      have ev : evS (callN Φ n) (.raise c .nil) = fun f S => .exc c [] f S := by
        funext f S
        have : excFs c [] = some [] := by
          unfold excFs
          split <;> first | omega | rfl | simp_all
        unfold evS evEs
        simp only [Out.so_ok, this]
      rw [ev]
      exact fs_raise facts_ve C.c.calm C.c.tk (C.c.mak _ c (of_decide_eq_true h1) hc) c2 c3 c4 (gl_ok C.c h3) (nm_ok h4).1
    · cases h
  | .raise c (.cons e .nil), st, R, X, G, C, h => by
    unfold cS at h
    dsimp only at h
    split at h
    · obtain ⟨h1, k1⟩ := and2 h
      obtain ⟨h2, k2⟩ := and2 k1
      obtain ⟨h3, k3⟩ := and2 k2
      obtain ⟨h4, k4⟩ := and2 k3
      obtain ⟨h5, k5⟩ := and2 k4
      obtain ⟨h6, h7⟩ := and2 k5
      obtain ⟨c1, c2, c3, c4⟩ := C.c.cls _ c (of_decide_eq_true h1)
      have hc : c = 13 ∨ c = 14 := of_decide_eq_true h2
      have ev : evS (callN Φ n) (.raise c (.cons e .nil)) = fun f S => (evE (callN Φ n) e f S).so f fun d S => .exc c [(c - 13, d)] f S := by
        funext f S
        have hx : ∀ d, excFs c [d] = some [(c - 13, d)] := fun d => by
          rcases hc with rfl | rfl <;> rfl
        unfold evS evEs
        cases q : evE (callN Φ n) e f S with
        | ok d S' =>
          unfold evEs
          simp only [Out.ok_bind, Out.so_ok, hx]
        | exc _ _ _ => rfl
        | bad => rfl
      rw [ev]
      obtain ⟨T, fI, fd, ps, i1, i2, i3, i4⟩ := C.c.ini c (of_decide_eq_true h3)
      exact fs_raiseF C.c.k C.c.calm C.c.tk T i1 i2 i3 (C.c.room.room.mono (by omega)) i4 (gl_ok C.c h4) c2 (nm_ok h5).1 (sE Φ n e _ R X G C.c h7).1 h6
    · cases h
  | .raise c (.cons _ (.cons _ _)), st, R, X, G, C, h => by cases h
  | .raise c (.cons _ (.star _ _)), st, R, X, G, C, h => by cases h
  | .raise c (.star _ _), st, R, X, G, C, h => by cases h
  | .trys a x e v, st, R, X, G, C, h => by
    unfold cS at h
    split at h
    · obtain ⟨h0, k0⟩ := and2 h
      obtain ⟨h1, k1⟩ := and2 k0
      obtain ⟨h2, k2⟩ := and2 k1
      obtain ⟨h3, k3⟩ := and2 k2
      obtain ⟨h4, k4⟩ := and2 k3
      obtain ⟨h5, k5⟩ := and2 k4
      obtain ⟨h6, k6⟩ := and2 k5
      obtain ⟨h7, k7⟩ := and2 k6
      obtain ⟨h8, k8⟩ := and2 k7
      obtain ⟨h9, k9⟩ := and2 k8
      obtain ⟨h10, k10⟩ := and2 k9
      have e0 := of_decide_eq_true h1
      subst e0
      have e1 := of_decide_eq_true h5
      subst e1
      obtain ⟨c1, c2, _⟩ := C.c.cls _ 0 (of_decide_eq_true h2)
      obtain ⟨n1, n2, _⟩ := nm_ok h10
      have T := (C.c.clsOk h0).exm
      rw [C.c.k] at T
      exact fs_try C.c.k C.ex C.stk C.frm C.c.nd (by rw [C.c.N]; exact of_decide_eq_true h6) (by rw [C.c.N]; exact of_decide_eq_true h7) (by rw [C.c.sc]; exact of_decide_eq_true h8) (by rw [C.c.sc]; exact of_decide_eq_true h9) n1 n2 ⟨gl_ok C.c h3, (nm_ok h4).1, .inl c2⟩ C.c.tk T
        (fun W pn xe tk ps => sSs Φ n a _ R _ _ (C.tr tk ps) k10)
    · cases h
theorem sSs (Φ : Nat → Option Def) (n : Nat) : ∀ (s : Ss) (st : List Stmt) (R : Rc) (X : Cx) (G : Gx), CokS Φ n R X G → cSs R s st = true → PSs X st (liftS G (evSs (callN Φ n) s))
  | .nil, st, R, X, G, C, h => by
    unfold cSs at h
    split at h
    · exact fs_nil
    · cases h
  | .cons s r, st, R, X, G, C, h => by
    unfold cSs at h
    split at h
    · obtain ⟨h1, h2⟩ := and2 h
      exact fs_cons (sS Φ n s _ R X G C h1) (sSs Φ n r _ R X G C h2)
    · cases h
end
end SL
set_option Elab.async false
set_option linter.all false
set_option maxRecDepth 100000
set_option maxHeartbeats 4000000
/-! B6: defs by their checked bodies; a law's end. -/
namespace SL
open PySem PySem.Spec PyProof.Rows L2

/-! ### what is forgotten at a return -/
mutual
def below (m : Nat) : D → Prop
  | .tup ds => belowL m ds
  | .lst ds => belowL m ds
  | .dct _ ds => belowL m ds
  | .ref k => k < m
  | _ => True
def belowL (m : Nat) : List D → Prop
  | [] => True
  | d :: ds => below m d ∧ belowL m ds
end
section
variable {K : PySem.W.Frag} {C : Nat → Addr} {μ μ' : Mu} {H H' : Hp} {S S' : Sto}
mutual
theorem below_of : ∀ {d : D} {v : V}, Is K μ H d v → below μ.l.length d
  | .non, _, _ => trivial
  | .bl _, _, _ => trivial
  | .int _, _, _ => trivial
  | .str _, _, _ => trivial
  | .scr _, _, _ => trivial
  | .tup ds, v, ⟨a, vs, _, _, l⟩ => belowL_of (ds := ds) l
  | .lst ds, v, ⟨a, vs, _, _, _, l⟩ => belowL_of (ds := ds) l
  | .dct ks ds, v, ⟨a, vs, _, _, _, _, l⟩ => belowL_of (ds := ds) l
  | .ref k, v, ⟨a, _, q⟩ => (List.getElem?_eq_some_iff.mp q).1
theorem belowL_of : ∀ {ds : List D} {vs : List V}, IsL K μ H ds vs → belowL μ.l.length ds
  | [], _, _ => trivial
  | d :: ds, vs, ⟨v, r, _, i, l⟩ => ⟨below_of i, belowL_of l⟩
end
mutual
theorem cut_is (pre : μ.l <+: μ'.l) (hr : μ'.r = μ.r) : ∀ {d : D} {v : V}, below μ.l.length d → Is K μ' H d v → Is K μ H d v
  | .non, _, _, i => i
  | .bl _, _, _, i => i
  | .int _, _, _, i => i
  | .str _, _, _, i => i
  | .scr _, _, _, i => i
  | .tup ds, v, b, ⟨a, vs, e, q, l⟩ => ⟨a, vs, e, q, cutL_is pre hr (ds := ds) b l⟩
  | .lst ds, v, b, ⟨a, vs, e, n, q, l⟩ => ⟨a, vs, e, fun z => n (z.elim (fun y => .inl (pre.subset y)) (fun y => .inr (by rw [hr]; exact y))), q, cutL_is pre hr (ds := ds) b l⟩
  | .dct ks ds, v, b, ⟨a, vs, e, n, q, kk, l⟩ => ⟨a, vs, e, fun z => n (z.elim (fun y => .inl (pre.subset y)) (fun y => .inr (by rw [hr]; exact y))), q, kk, cutL_is pre hr (ds := ds) b l⟩
  | .ref k, v, b, ⟨a, e, q⟩ => ⟨a, e, by
    obtain ⟨t, ht⟩ := pre
    rw [← ht, List.getElem?_append_left (show k < μ.l.length from b)] at q
    exact q⟩
theorem cutL_is (pre : μ.l <+: μ'.l) (hr : μ'.r = μ.r) : ∀ {ds : List D} {vs : List V}, belowL μ.l.length ds → IsL K μ' H ds vs → IsL K μ H ds vs
  | [], _, _, l => l
  | d :: ds, vs, ⟨b1, b2⟩, ⟨v, r, e, i, l⟩ => ⟨v, r, e, cut_is pre hr b1 i, cutL_is pre hr b2 l⟩
end
theorem belowFs_of : ∀ {fs : List (Nat × D)} {fv : List (Str × V)}, FsIs K μ H fs fv → ∀ p ∈ fs, below μ.l.length p.2
  | [], _, _, _, hp => by cases hp
  | (n, d) :: fs, fv, ⟨v, r, _, i, l⟩, p, hp => by
    rcases List.mem_cons.mp hp with rfl | hp
    · exact below_of i
    · exact belowFs_of l p hp
theorem cutFs_is (pre : μ.l <+: μ'.l) (hr : μ'.r = μ.r) : ∀ {fs : List (Nat × D)} {fv : List (Str × V)}, (∀ p ∈ fs, below μ.l.length p.2) → FsIs K μ' H fs fv → FsIs K μ H fs fv
  | [], _, _, l => l
  | (n, d) :: fs, fv, b, ⟨v, r, e, i, l⟩ => ⟨v, r, e, cut_is pre hr (b _ List.mem_cons_self) i, cutFs_is pre hr (fun p hp => b p (List.mem_cons_of_mem _ hp)) l⟩
theorem pure_below (m : Nat) : ∀ (n : Nat) (d : D), pureD n d → below m d
  | 0, _, h => h.elim
  | n + 1, .non, _ => trivial
  | n + 1, .bl _, _ => trivial
  | n + 1, .int _, _ => trivial
  | n + 1, .str _, _ => trivial
  | n + 1, .scr _, h => h.elim
  | n + 1, .ref _, h => h.elim
  | n + 1, .tup ds, h => by
    have go : ∀ ds : List D, (∀ d ∈ ds, pureD n d) → belowL m ds := fun ds => by
      induction ds with
      | nil => intro _; trivial
      | cons d ds ih => exact fun h => ⟨pure_below m n d (h d List.mem_cons_self), ih fun e he => h e (List.mem_cons_of_mem _ he)⟩
    exact go ds h
  | n + 1, .lst ds, h => by
    have go : ∀ ds : List D, (∀ d ∈ ds, pureD n d) → belowL m ds := fun ds => by
      induction ds with
      | nil => intro _; trivial
      | cons d ds ih => exact fun h => ⟨pure_below m n d (h d List.mem_cons_self), ih fun e he => h e (List.mem_cons_of_mem _ he)⟩
    exact go ds h
  | n + 1, .dct _ ds, h => by
    have go : ∀ ds : List D, (∀ d ∈ ds, pureD n d) → belowL m ds := fun ds => by
      induction ds with
      | nil => intro _; trivial
      | cons d ds ih => exact fun h => ⟨pure_below m n d (h d List.mem_cons_self), ih fun e he => h e (List.mem_cons_of_mem _ he)⟩
    exact go ds h
theorem gc_ok {d : D} {v : V} (R : RepS K C μ S H) (x : Ext μ H μ' H') (R' : RepS K C μ' S' H') (i : Is K μ' H' d v) : ∃ μ2, Ext μ H μ2 H' ∧ RepS K C μ2 (gc S d S') H' ∧ Is K μ2 H' d v := by
  unfold gc
  split
  · rename_i hc
    obtain ⟨⟨n, hp⟩, hS⟩ := hc
    have hr : μ'.r = μ.r := x.held
    refine ⟨μ, ⟨List.prefix_refl _, rfl, x.keep, fun b m k => absurd m k⟩, ⟨⟨R.nd, R.len, fun k a o e1 e2 => ?_, fun a ha => ?_⟩, R'.kz⟩, cut_is x.pre hr (pure_below _ n d hp) i⟩
    · have m1 : μ'.l[k]? = some a := by
        obtain ⟨t, ht⟩ := x.pre
        rw [← ht, List.getElem?_append_left (List.getElem?_eq_some_iff.mp e1).1]
        exact e1
      have m2 : S'[k]? = some o := by
        obtain ⟨t, ht⟩ := hS
        rw [← ht, List.getElem?_append_left (List.getElem?_eq_some_iff.mp e2).1]
        exact e2
      have old := R.ob k a o e1 e2
      have new := R'.ob k a o m1 m2
      cases o with
      | lst ds =>
        obtain ⟨vs, q, l⟩ := new
        obtain ⟨_, _, l0⟩ := old
        exact ⟨vs, q, cutL_is x.pre hr (belowL_of l0) l⟩
      | dct ks ds =>
        obtain ⟨vs, q, kk, l⟩ := new
        obtain ⟨_, _, _, l0⟩ := old
        exact ⟨vs, q, kk, cutL_is x.pre hr (belowL_of l0) l⟩
      | ins c fs =>
        obtain ⟨dx, fv, q, l⟩ := new
        obtain ⟨_, _, _, l0⟩ := old
        exact ⟨dx, fv, q, cutFs_is x.pre hr (belowFs_of l0) l⟩
      | exc c fs =>
        obtain ⟨dd, q, l⟩ := new
        obtain ⟨_, _, l0⟩ := old
        refine ⟨dd, q, ?_⟩
        cases fs with
        | nil => exact l
        | cons f fs =>
          obtain ⟨p, fv, e3, n3, h3, l3⟩ := l
          obtain ⟨_, _, _, _, _, l4⟩ := l0
          exact ⟨p, fv, e3, fun z => n3 (z.elim (fun y => .inl (x.pre.subset y)) (fun y => .inr (by rw [hr]; exact y))), h3, cutFs_is x.pre hr (belowFs_of l4) l3⟩
    · obtain ⟨n1, xs, e⟩ := R'.held a (by rw [hr]; exact ha)
      exact ⟨fun m => n1 (x.pre.subset m), xs, e⟩
  · exact ⟨μ', x, R', i⟩
end

/-! ### a def -/
theorem start_sl {K : PySem.W.Frag} {μ : Mu} {H : Hp} {d : Def} {ds : List D} {vs : List V} {N : List Str} (l : IsL K μ H ds vs) (hn : d.ns = N.length) : Sl K μ H (start d ds) (L2.start N vs) := by
  have e := l.length
  refine ⟨?_, fun i x h => ?_⟩
  · unfold start L2.start
    simp only [List.length_append, List.length_map, List.length_replicate]
    rw [e, hn]
  · unfold start at h
    unfold L2.start
    by_cases hi : i < ds.length
    · rw [List.getElem?_append_left (by simpa using hi), List.getElem?_map] at h
      cases q : ds[i]? with
      | none => rw [q] at h; cases h
      | some y =>
        rw [q] at h
        cases h
        obtain ⟨v, e1, i1⟩ := l.get q
        exact ⟨v, by rw [List.getElem?_append_left (by simp; omega), List.getElem?_map, e1]; rfl, i1⟩
    · rw [List.getElem?_append_right (by simpa using hi), List.getElem?_replicate] at h
      split at h <;> cases h
section
variable {Φ : Nat → Option Def} {P : Program} {w : World} {K : PySem.W.Frag} {mg : Str → Option Value} {base : Heap} {C : Nat → Addr} {n g : Nat} {f : Addr} {name qual : Str} {params : Arguments} {body : List Stmt} {scope : Scope} {dV kV doc pm cdv ct oc : Value} {an od : Option Addr} {osl : Array (Option Value)} {N ps : List Str} {d : Def} {R : Rc}
theorem spF_len (hΦ : Φ g = some d) (hp : d.np = ps.length) (vs : List V) (H : Hp) (Q : VK) (E : XK) (h : spF Φ K C (n + 1) g vs H Q E) : vs.length = ps.length := by
  obtain ⟨μ, S, ds, _, l, m⟩ := h
  unfold callN at m
  rw [hΦ] at m
  dsimp only at m
  rw [l.length, ← hp]
  by_cases q : ds.length = d.np ∧ d.np ≤ d.ns
  · exact q.1
  · rw [if_neg q] at m; exact m.elim
theorem fnG_of (lk : K.lookup f = some ⟨oc, od, .func (PySem.W.fnOf name qual params body scope dV kV doc pm an cdv ct), osl⟩) (hcd : PySem.W.codeIn K cdv qual = true) (Sc : FnScope N ps scope) (hΦ : Φ g = some d) (hp : d.np = ps.length) (hs : d.ns = N.length) (ck : cSs R d.body body = true)
    (hC : ∀ (A : Around) (outer : List Env) (s : Shared) (H : Hp) (E : XK), A.guards = some [] → RoomG n (A.deeper (envOfC qual scope s.heap.objs.size f cdv)) → CokS Φ n R (cxOf (L2.CX P w) P w K mg base N qual scope f cdv A outer s H E) ⟨K, C, fun cls dd _ H' => E cls dd H'⟩) :
    FnG P w K mg base (n + 1) f (PySem.W.fnOf name qual params body scope dV kV doc pm an cdv ct) ps (spF Φ K C (n + 1) g) := by
  constructor
  · exact spF_len hΦ hp
  · intro A outer s H args us vs Q E hg hr e0 hb rv hsp
    have len := spF_len hΦ hp vs H Q E hsp
    have kin : K.In s.heap := e0.mod.kin.keeps fun b o e => (e0.bs b o e).1
    have nolim : s.heap.NoLimit := e0.mod.nolimit.keeps fun b o e => (e0.bs b o e).1
    have kinds : ∀ y ∈ ps.zip us, scope.names.lookup y.1 = some .local ∨ (scope.names.lookup y.1 = some .cell ∧ ((cellsFrom (s.heap.objs.size + 1) scope.names []).lookup y.1).isSome = true) := by
      rintro ⟨y, u⟩ hy
      rcases Sc.par y (List.of_mem_zip hy).1 with z | z
      · exact .inl z
      · exact .inr ⟨z, PySem.W.cellsFrom_some _ _ _ (.inl z)⟩
    refine codeAny_call_function hr.depth (kin _ _ lk) rfl Sc.co Sc.gen rfl (PySem.W.codeRec_of kin hcd) (hb _ _ _ _ (wpAny_newFunctionEnv_cells Sc.kind kinds fun env he t x => ?_))
    subst he
    refine ⟨nolim.keeps x.toInCall.keep, codeAny_func ?_⟩
    have CC := hC A outer s H E hg (hr.deeper _)
    have run := sSs Φ n d.body body R _ _ CC ck
    have I : Inv (cxOf (L2.CX P w) P w K mg base N qual scope f cdv A outer s H E) [] (L2.start N vs) H t := inv_start Sc hr.hd e0 len rv x
    have pre : liftS ⟨K, C, fun cls dd _ H' => E cls dd H'⟩ (evSs (callN Φ n) d.body) { nx := fun _ H' => Q .non H', rt := Q } (L2.start N vs) H := by
      obtain ⟨μ, S, ds, RR, l, m⟩ := hsp
      refine ⟨μ, start d ds, S, RR, start_sl l hs, ?_⟩
      unfold callN at m
      rw [hΦ] at m
      dsimp only at m
      by_cases q : ds.length = d.np ∧ d.np ≤ d.ns
      · rw [if_pos q] at m
        cases ee : evSs (callN Φ n) d.body (start d ds) S with
        | ret r S' =>
          rw [ee] at m
          intro v H' μ' x1 R1 i1
          obtain ⟨μ2, x2, R2, i2⟩ := gc_ok RR x1 R1 i1
          exact m v H' μ2 x2 R2 i2
        | nx f' S' =>
          rw [ee] at m
          intro σ' H' μ' x1 R1 L1
          obtain ⟨μ2, x2, R2, i2⟩ := gc_ok (d := .non) (v := .non) RR x1 R1 rfl
          exact m .non H' μ2 x2 R2 i2
        | exc c fs f' S' =>
          rw [ee] at m
          exact fun σ' H' μ' dd x1 R1 L1 xi => m H' μ' dd x1 R1 xi
        | brk f' S' => rw [ee] at m; exact m.elim
        | ct f' S' => rw [ee] at m; exact m.elim
        | bad => rw [ee] at m; exact m.elim
      · rw [if_neg q] at m; exact m.elim
    refine wpAny_mono (run.run [] t (L2.start N vs) H _ I pre) (fun fl t' z => ?_) fun e t' z => z
    cases fl with
    | ret u =>
      obtain ⟨v, σ', H', J, r1, q⟩ := z
      exact ⟨v, H', J.os, J.bare, J.base, J.hok, r1, q⟩
    | next =>
      obtain ⟨σ', H', J, q⟩ := z
      exact ⟨V.non, H', J.os, J.bare, J.base, J.hok, rfl, q⟩
    | brk =>
      obtain ⟨_, _, _, q⟩ := z
      exact q.elim
    | cont =>
      obtain ⟨_, _, _, q⟩ := z
      exact q.elim
end
end SL
set_option Elab.async false
set_option linter.all false
set_option maxRecDepth 100000
set_option maxHeartbeats 4000000
/-! B7: a law's end over the layer. -/
namespace SL
open PySem PySem.Spec PyProof.Rows L2
section
variable {P : Program} {w : World} {K : PySem.W.Frag} {mg mb : Str → Option Value} {k : Nat} {fa a : Addr} {fd : FuncData} {x : Str} {sp : Sp} {s₁ : Shared} {vs : List Value} {ns : List Int}
/-- the abstract heap that tracks nothing, or the script alone -/
def scriptH (K : PySem.W.Frag) (a : Addr) (o : Obj) (ns : List Int) : Hp := fun b => if b = a ∧ (K.lookup a).isNone then some (.frz o (.lst (ns.map V.int))) else none
theorem law_end (KX : K.In s₁.heap) (hns : s₁.heap.Ns mainGlobals mg) (hb : s₁.heap.Ns builtinsNs mb) (hbb : ∀ x : Str, x ≠ "__name__" → mb x = bootBuiltins x) (hlim : s₁.heap.NoLimit) (hg : s₁.gens = #[])
    (ha : s₁.heap.get? a = some { cls := .type "list", data := .seq vs.toArray }) (hi : IntsAre vs ns) (hl : ns.length ≤ sizeLine) (hr : RoomG k callerA)
    (F : ∀ bs : Heap, K.In bs → bs.Ns mainGlobals mg → FnG P w K mg bs k fa fd [x] sp) (hbind : ∀ (s : Shared) (u : Value), BindsTo s fd ⟨[u], []⟩ [(x, u)])
    (hsp : ∀ H : Hp, KZ K H → SqF K H a (ns.map V.int) → sp [.ref a] H (fun v _ => v = .bl true) fun _ _ _ => False) :
    codeAny (model P w) callerA (.call (.ref fa) ⟨[.ref a], []⟩) (fun r s' => r = .ok (.ret (.bool true)) ∧ OldK s₁.heap s'.heap ∧ s'.os = s₁.os ∧ AllBare s'.gens) s₁ := by
  have rv := vals_ints hi
  have lv := hi.length
  let o1 : Obj := { cls := .type "list", data := .seq vs.toArray }
  let H : Hp := scriptH K a o1 ns
  have tracked : ∀ b u, H b = some u → b = a ∧ K.lookup a = none ∧ u = .frz o1 (.lst (ns.map V.int)) := fun b u q => by
    by_cases hc : b = a ∧ (K.lookup a).isNone = true
    · have q2 : H b = some (.frz o1 (.lst (ns.map V.int))) := if_pos hc
      rw [q2] at q
      cases q
      refine ⟨hc.1, ?_, rfl⟩
      cases z : K.lookup a with
      | none => rfl
      | some _ => have z2 := hc.2; rw [z] at z2; cases z2
    · have q2 : H b = none := if_neg hc
      rw [q2] at q; cases q
  have hok : HOk P w H s₁.heap := fun b u q => by
    obtain ⟨e1, _, e3⟩ := tracked b u q
    subst e1 e3
    exact ⟨ha, by rw [List.length_map]; exact hl, vs, _, rv, ha⟩
  have put : ∀ {b : Addr} {o : Obj}, s₁.heap.get? b = some o → H b = none → (hidT s₁.heap H).get? b = some o := fun q m => hidT_get q m
  have spaces : ∀ {b : Addr} {m : Str → Option Value}, s₁.heap.Ns b m → (hidT s₁.heap H).Ns b m := fun {b m} ⟨o, es, ep, q, dd, r⟩ => by
    refine ⟨o, es, ep, put q ?_, dd, r⟩
    cases z : H b with
    | none => rfl
    | some u =>
      obtain ⟨e1, _⟩ := tracked b u z
      subst e1
      rw [ha] at q
      cases q
      cases (show Data.seq vs.toArray _ = Data.dict es ep from dd)
  have kb : K.In (hidT s₁.heap H) := fun b o q => by
    refine put (KX b o q) ?_
    cases z : H b with
    | none => rfl
    | some u =>
      obtain ⟨e1, e2, _⟩ := tracked b u z
      subst e1
      rw [q] at e2; cases e2
  have kz : KZ K H := by
    refine ⟨fun b o q => ?_, fun b xs q => ?_, fun b xs q => ?_, fun b o xs q => ?_, fun b o xs q => ?_, fun b kvs q => ?_⟩
    · cases z : H b with
      | none => rfl
      | some u =>
        obtain ⟨e1, e2, _⟩ := tracked b u z
        subst e1
        rw [q] at e2; cases e2
    · cases (tracked b _ q).2.2
    · cases (tracked b _ q).2.2
    · have e := (tracked b _ q).2.2
      cases e
      rw [List.length_map]; exact hl
    · have e := (tracked b _ q).2.2
      cases e
    · cases (tracked b _ q).2.2
  have sq : SqF K H a (ns.map V.int) := by
    cases z : K.lookup a with
    | none => exact .inl ⟨o1, if_pos ⟨rfl, by rw [z]; rfl⟩⟩
    | some o =>
      have e := KX a o z
      rw [ha] at e
      cases e
      exact .inr ⟨_, vs.toArray, _, z, rfl, rfl, rfl, by rw [List.size_toArray, lv]; exact hl, by simpa using rv⟩
  have md : Mod K mg (hidT s₁.heap H) := ⟨kb, spaces hns, ⟨mb, spaces hb, hbb⟩, let ⟨mc, h1, h2⟩ := hlim; ⟨mc, spaces h1, h2⟩⟩
  have env0 : Env0 P w K mg (hidT s₁.heap H) callerA [] s₁ H := ⟨rfl, md, fun b o q => of_hidT q, Nat.le_of_eq (hidT_size _ _), trivial, fun b z => absurd z (List.not_mem_nil), hok, .of_eq hg⟩
  refine codeAny_mono ((F _ kb (spaces hns)).run callerA [] s₁ H ⟨[.ref a], []⟩ [.ref a] [.ref a] _ _ rfl hr env0 (hbind s₁ (.ref a)) (.cons rfl .nil) (hsp H kz sq)) fun r t h => ?_
  cases r with
  | error e =>
    obtain ⟨_, _, _, _, _, _, _, _, _, _, _, _, z⟩ := h
    exact z.elim
  | ok fl =>
    cases fl with
    | ret u =>
      obtain ⟨v, H', os, bare, un, hok', r', q⟩ := h
      cases (show v = .bl true from q)
      obtain rfl : u = Value.bool true := r'
      refine ⟨rfl, OldK.of_keep fun b o e => ?_, os, bare⟩
      cases z : H b with
      | none => exact un.keep b o e z (fun y => by cases y) (fun y => by cases y)
      | some u =>
        obtain ⟨_, _, e3⟩ := tracked b u z
        subst e3
        obtain ⟨e1, _⟩ := hok b _ z
        obtain ⟨e2, _⟩ := hok' b _ (un.frzs b o1 _ z)
        rw [e] at e1; cases e1
        exact e2
    | next => exact h.elim
    | brk => exact h.elim
    | cont => exact h.elim
end
/-- a law over a head by facts -/
theorem walk_law {l : PySem.W.OpenLaw} {n k : Nat} {q : Program} {loose : List Str} {XP : (Str → Option Value) → Heap → Prop} {YP : World → Heap → Prop} {d : DefRec} {x : Str} (hn : l.most = some n) (hn2 : n ≤ sizeLine) (hdf : d.params.defaults = []) (hr : RoomG k callerA)
    (F : ∀ (w : World) (mg : Str → Option Value) (fa : Addr) (h : Heap), YP w h → h.Ns mainGlobals mg → mg d.name = some (.ref fa) → ∃ (K : PySem.W.Frag) (fd : FuncData) (sp : Sp), K.In h ∧ (∀ (s : Shared) (u : Value), BindsTo s fd ⟨[u], []⟩ [(x, u)]) ∧
      (∀ (H : Hp) (a : Addr) (ns : List Int), ns.length ≤ n → KZ K H → SqF K H a (ns.map V.int) → sp [.ref a] H (fun v _ => v = .bl true) fun _ _ _ => False) ∧ ∀ bs : Heap, K.In bs → bs.Ns mainGlobals mg → FnG l.prog w K mg bs k fa fd [x] sp) :
    PySem.W.WalkO q loose XP YP l.row.toRowW d [] (fun f vs => PySem.call f vs) := by
  refine Att.attach_call hn hdf fun w _ s mg mb fa _ _ _ _ a vs ns GG Y _ _ _ hmg hobj hints hlen hg => ?_
  obtain ⟨K, fd, sp, kx, bd, hsp, hF⟩ := F w mg fa _ Y GG.T.g hmg
  exact law_end kx GG.T.g GG.T.b GG.T.builtins GG.T.nolimit hg hobj hints (Nat.le_trans hlen hn2) hr hF bd fun H kz hS => hsp H a ns hlen kz hS
end SL
set_option Elab.async false
set_option linter.all false
set_option maxRecDepth 100000
set_option maxHeartbeats 4000000
/-! B8: a program of checked defs over a head by facts. -/
namespace SL
open PySem PySem.Spec PyProof.Rows L2
/-- a def of the text: its name, its statement, its number, its slots, its parameters, its meaning -/
structure Fd where
  nm : Str
  st : Stmt
  id : Nat
  N : List Str
  ps : List Str
  d : Def
  df : Bool := false
def clsName : Nat → Str
  | 1 => "NoPattern"
  | 2 => "NoWord"
  | 3 => "NoLength"
  | 4 => "NoTold"
  | 5 => "NoSigns"
  | 6 => "NoLines"
  | 7 => "NoLine"
  | 8 => "NoNumber"
  | 9 => "Unlike"
  | 10 => "NoRows"
  | 11 => "ManySolve"
  | 12 => "OneSolves"
  | 13 => "Parted"
  | 14 => "NoText"
  | _ => "LinesError"
def Cof (K : PySem.W.Frag) (y : Nat) : Addr := He.ga K (clsName y)
def clTab (cl : List Nat) : List (Str × Nat) := cl.map fun y => (clsName y, y)
def tyNames : List String := ["NoneType", "bool", "int", "str", "tuple", "list"]
def excCB (K : PySem.W.Frag) (D : Addr) : Bool := decide (PySem.W.findIn K (.ref D) "__getattribute__" = some (some (.builtin "BaseException.__getattribute__"))) && (decide (PySem.W.findIn K (.ref D) "__getattr__" = some none) && (decide (PySem.W.subIn K (.ref D) (.type "BaseException") = some true) && (PySem.W.hasDictIn K D && (decide (PySem.W.findIn K (.ref D) "__class__" = some (some (.builtin "object.__class__"))) &&
  (decide (PySem.W.specialIn K (.builtin "object.__class__") "__get__" = some (some (.builtin "getset_descriptor.__get__"))) && (decide (PySem.W.takesIn K (.builtin "object.__class__") = some true) && (decide (PySem.W.mroIn K D (.type "object") = some true) && (decide (PySem.W.findIn K (.ref D) "word" = some none) && decide (PySem.W.findIn K (.ref D) "line" = some none)))))))))
def oneB (cl : List Nat) (K : PySem.W.Frag) (y : Nat) : Bool := decide (PySem.W.nsIn K mainGlobals (clsName y) = some (some (.ref (Cof K y)))) && (PySem.W.keepIn K (.ref (Cof K y)) && (decide (PySem.W.typeIn K (.ref (Cof K y)) = some (.type "type")) && (excCB K (Cof K y) && (cl.all (fun c => decide (PySem.W.kitOne K (.ref (Cof K y)) (.ref (Cof K c)) = some (under y c))) &&
  (decide (PySem.W.kitOne K (.ref (Cof K y)) (.type "ValueError") = some true) && (tyNames.all (fun T => decide (PySem.W.kitOne K (.type T) (.ref (Cof K y)) = some false)) && (decide (PySem.W.exmOne K (.ref (Cof K y)) (.ref (Cof K 0)) = some true) && (if y < 13 then PySem.W.excIn K (Cof K y) veL "ValueError.__new__" else true))))))))
def signsB (K : PySem.W.Frag) : Bool := match PySem.W.nsIn K mainGlobals "SIGNS" with
  | some (some (.str y _)) => decide (y = "abcdefgh")
  | _ => false
def gloB (K : PySem.W.Frag) : Nat → Bool
  | 0 => signsB K
  | 1 => decide (PySem.W.nsIn K mainGlobals "NONE" = some (some (.ref (He.ga K "NONE")))) && He.tupB K "NONE" [.str "none"]
  | 2 => decide (PySem.W.nsIn K mainGlobals "EMPTY" = some (some (.ref (He.ga K "EMPTY")))) && He.tupB K "EMPTY" [.str "empty"]
  | _ => false
/-- the whole look at the module -/
def exB (gl cl : List Nat) (K : PySem.W.Frag) : Bool := cl.all (fun y => decide (y < 15) && oneB cl K y) && (tyNames.all (fun T => decide (PySem.W.kitOne K (.type T) (.type "ValueError") = some false)) && (gl.all (gloB K) && bNames.all fun x => decide (PySem.W.nsIn K mainGlobals x = some none)))
section
variable {K : PySem.W.Frag} {h : Heap} {mg : Str → Option Value} {gl cl : List Nat}
theorem exB_one (e : exB gl cl K = true) {y : Nat} (hy : y ∈ cl) : y < 15 ∧ oneB cl K y = true := by
  obtain ⟨h1, h2⟩ := and2 (List.all_eq_true.mp (and2 e).1 y hy)
  exact ⟨of_decide_eq_true h1, h2⟩
theorem exB_cls (e : exB gl (List.range 15) K = true) : ClsOk K (Cof K) := by
  have one := fun {y : Nat} (hy : y < 15) => (exB_one e (List.mem_range.mpr hy)).2
  refine ⟨fun y hy => ?_, fun y c hy hc => ?_, fun y hy => ?_, fun c hc T hT => ?_, fun T hT => ?_, fun y => ?_, fun y hy n hn => ?_⟩
  · obtain ⟨_, k1⟩ := and2 (one hy)
    obtain ⟨_, k2⟩ := and2 k1
    obtain ⟨_, k3⟩ := and2 k2
    obtain ⟨q, _⟩ := and2 k3
    unfold excCB at q
    obtain ⟨q1, r1⟩ := and2 q
    obtain ⟨q2, r2⟩ := and2 r1
    obtain ⟨q3, r3⟩ := and2 r2
    obtain ⟨q4, r4⟩ := and2 r3
    obtain ⟨q5, r5⟩ := and2 r4
    obtain ⟨q6, r6⟩ := and2 r5
    obtain ⟨q7, r7⟩ := and2 r6
    obtain ⟨q8, _⟩ := and2 r7
    exact ⟨of_decide_eq_true q1, of_decide_eq_true q2, of_decide_eq_true q3, q4, of_decide_eq_true q5, of_decide_eq_true q6, of_decide_eq_true q7, of_decide_eq_true q8⟩
  · obtain ⟨_, k1⟩ := and2 (one hy)
    obtain ⟨_, k2⟩ := and2 k1
    obtain ⟨_, k3⟩ := and2 k2
    obtain ⟨_, k4⟩ := and2 k3
    obtain ⟨q, _⟩ := and2 k4
    exact of_decide_eq_true (List.all_eq_true.mp q c (List.mem_range.mpr hc))
  · obtain ⟨_, k1⟩ := and2 (one hy)
    obtain ⟨_, k2⟩ := and2 k1
    obtain ⟨_, k3⟩ := and2 k2
    obtain ⟨_, k4⟩ := and2 k3
    obtain ⟨_, k5⟩ := and2 k4
    obtain ⟨q, _⟩ := and2 k5
    exact of_decide_eq_true q
  · obtain ⟨_, k1⟩ := and2 (one hc)
    obtain ⟨_, k2⟩ := and2 k1
    obtain ⟨_, k3⟩ := and2 k2
    obtain ⟨_, k4⟩ := and2 k3
    obtain ⟨_, k5⟩ := and2 k4
    obtain ⟨_, k6⟩ := and2 k5
    obtain ⟨q, _⟩ := and2 k6
    exact of_decide_eq_true (List.all_eq_true.mp q T hT)
  · obtain ⟨_, k1⟩ := and2 e
    obtain ⟨q, _⟩ := and2 k1
    exact of_decide_eq_true (List.all_eq_true.mp q T hT)
  · have key : ∀ {y : Nat}, y < 15 → PySem.W.exmOne K (.ref (Cof K y)) (.ref (Cof K 0)) = some true := fun {y} hy => by
      obtain ⟨_, k1⟩ := and2 (one hy)
      obtain ⟨_, k2⟩ := and2 k1
      obtain ⟨_, k3⟩ := and2 k2
      obtain ⟨_, k4⟩ := and2 k3
      obtain ⟨_, k5⟩ := and2 k4
      obtain ⟨_, k6⟩ := and2 k5
      obtain ⟨_, k7⟩ := and2 k6
      obtain ⟨q, _⟩ := and2 k7
      exact of_decide_eq_true q
    by_cases hy : y < 15
    · exact key hy
    · have e0 : Cof K y = Cof K 0 := by
        unfold Cof
        have : clsName y = clsName 0 := by
          unfold clsName
          split <;> first | omega | rfl
        rw [this]
      rw [e0]
      exact key (by omega)
  · obtain ⟨_, k1⟩ := and2 (one hy)
    obtain ⟨_, k2⟩ := and2 k1
    obtain ⟨_, k3⟩ := and2 k2
    obtain ⟨q, _⟩ := and2 k3
    unfold excCB at q
    obtain ⟨_, r1⟩ := and2 q
    obtain ⟨_, r2⟩ := and2 r1
    obtain ⟨_, r3⟩ := and2 r2
    obtain ⟨_, r4⟩ := and2 r3
    obtain ⟨_, r5⟩ := and2 r4
    obtain ⟨_, r6⟩ := and2 r5
    obtain ⟨_, r7⟩ := and2 r6
    obtain ⟨_, r8⟩ := and2 r7
    obtain ⟨q9, q10⟩ := and2 r8
    have hn' : n = 0 ∨ n = 1 := by omega
    rcases hn' with rfl | rfl
    · exact of_decide_eq_true q9
    · exact of_decide_eq_true q10
theorem clTab_ok {x : Str} {c : Nat} (h : (clTab cl).lookup x = some c) : c ∈ cl ∧ x = clsName c := by
  have m := mem_of_lookup h
  obtain ⟨y, hy, e⟩ := List.mem_map.mp m
  cases e
  exact ⟨hy, rfl⟩
theorem exB_names (e : exB gl cl K = true) (X : K.In h) (G : h.Ns mainGlobals mg) {x : Str} {c : Nat} (hl : (clTab cl).lookup x = some c) : c < 15 ∧ mg x = some (.ref (Cof K c)) ∧ PySem.W.keepIn K (.ref (Cof K c)) = true ∧ (PySem.W.subIn K (.ref (Cof K c)) (.type "BaseException") = some true ∧ PySem.W.typeIn K (.ref (Cof K c)) = some (.type "type")) := by
  obtain ⟨hc', rfl⟩ := clTab_ok hl
  obtain ⟨hc, one⟩ := exB_one e hc'
  obtain ⟨q1, k1⟩ := and2 one
  obtain ⟨q2, k2⟩ := and2 k1
  obtain ⟨q3, _⟩ := and2 k2
  obtain ⟨q4, _⟩ := and2 (and2 k2).2
  unfold excCB at q4
  obtain ⟨_, r1⟩ := and2 q4
  obtain ⟨_, r2⟩ := and2 r1
  obtain ⟨q5, _⟩ := and2 r2
  exact ⟨hc, PySem.W.mg_of X G (of_decide_eq_true q1), q2, of_decide_eq_true q5, of_decide_eq_true q3⟩
theorem exB_mak (e : exB gl cl K = true) (x : Str) (c : Nat) (hl : (clTab cl).lookup x = some c) (hc : c < 13) : PySem.W.excIn K (Cof K c) veL "ValueError.__new__" = true := by
  obtain ⟨_, k1⟩ := and2 (exB_one e (clTab_ok hl).1).2
  obtain ⟨_, k2⟩ := and2 k1
  obtain ⟨_, k3⟩ := and2 k2
  obtain ⟨_, k4⟩ := and2 k3
  obtain ⟨_, k5⟩ := and2 k4
  obtain ⟨_, k6⟩ := and2 k5
  obtain ⟨_, k7⟩ := and2 k6
  obtain ⟨_, q⟩ := and2 k7
  rwa [if_pos hc] at q
theorem exB_free (e : exB gl cl K = true) (X : K.In h) (G : h.Ns mainGlobals mg) : ∀ x ∈ bNames, mg x = none := fun x hx => by
  obtain ⟨_, k1⟩ := and2 e
  obtain ⟨_, k2⟩ := and2 k1
  obtain ⟨_, q⟩ := and2 k2
  exact PySem.W.mg_none_of X G (of_decide_eq_true (List.all_eq_true.mp q x hx))
theorem exB_glo (e : exB gl cl K = true) (X : K.In h) (G : h.Ns mainGlobals mg) : ∀ i ∈ gl, ∃ d v u, gloD i = some d ∧ mg (gname i) = some u ∧ RelV v u ∧ ∀ μ H, Is K μ H d v := fun i hi => by
  obtain ⟨_, k1⟩ := and2 e
  obtain ⟨_, k2⟩ := and2 k1
  obtain ⟨q0, _⟩ := and2 k2
  have q := List.all_eq_true.mp q0 i hi
  match i, q with
  | 0, q =>
    have q : signsB K = true := q
    unfold signsB at q
    split at q
    · rename_i y t hn
      have e1 := of_decide_eq_true q
      subst e1
      exact ⟨_, .str "abcdefgh", _, rfl, PySem.W.mg_of X G hn, ⟨t, rfl⟩, fun _ _ => by show V.str _ = V.str _; congr 1⟩
    · cases q
  | 1, q =>
    obtain ⟨q1, q2⟩ := and2 q
    exact ⟨_, .ref (He.ga K "NONE"), _, rfl, PySem.W.mg_of X G (of_decide_eq_true q1), rfl, fun μ H => ⟨_, _, rfl, He.tupB_ok q2 H, ⟨_, [], rfl, by show V.str _ = V.str _; congr 1, rfl⟩⟩⟩
  | 2, q =>
    obtain ⟨q1, q2⟩ := and2 q
    exact ⟨_, .ref (He.ga K "EMPTY"), _, rfl, PySem.W.mg_of X G (of_decide_eq_true q1), rfl, fun μ H => ⟨_, _, rfl, He.tupB_ok q2 H, ⟨_, [], rfl, by show V.str _ = V.str _; congr 1, rfl⟩⟩⟩
  | n + 3, q => cases q
end

/-! ### the program -/
def AllF (p : Fd → Prop) : List Fd → Prop
  | [] => True
  | F :: r => p F ∧ AllF p r
theorem AllF.mem {p : Fd → Prop} : ∀ {l : List Fd}, AllF p l → ∀ F ∈ l, p F
  | F :: r, ⟨h, hr⟩, G, hG => by
    rcases List.mem_cons.mp hG with rfl | hG
    · exact h
    · exact AllF.mem hr G hG
def emptyB (K : PySem.W.Frag) (a : Addr) : Bool := match K.lookup a with
  | some ⟨c, _, .seq its _, _⟩ => decide (c = .type "tuple") && its.toList.isEmpty
  | _ => false
theorem emptyB_ok {K : PySem.W.Frag} {a : Addr} (h : emptyB K a = true) (H : Hp) : SqT K H a [] := by
  unfold emptyB at h
  cases e : K.lookup a with
  | none => rw [e] at h; cases h
  | some o =>
    rw [e] at h
    obtain ⟨c, d, dt, sl⟩ := o
    cases dt with
    | seq its n =>
      dsimp only at h
      obtain ⟨h1, h2⟩ := and2 h
      have e2 : its.toList = [] := by simpa using h2
      exact .inr ⟨_, its, n, e, of_decide_eq_true h1, rfl, by rw [← Array.length_toList, e2]; exact Nat.zero_le _, by rw [e2]; exact .nil⟩
    | _ => cases h
def dfl0 (F : Fd) (K : PySem.W.Frag) : Addr := He.dflAt (F.nm, none) 0 K
def dfV (F : Fd) (K : PySem.W.Frag) : List V := if F.df then [.ref (dfl0 F K)] else []
def BindD (F : Fd) : Prop := 1 ≤ F.ps.length ∧ (∀ (T : Addr) (kV doc pm : Value) (an : Option Addr) (cdv ct : Value) (us its : List Value), us.length + 1 = F.ps.length → its.length = 1 → ∃ k, bindArgs (PySem.W.fnOf F.nm F.nm (defArgs F.st) (defBody F.st) (defScope F.st) (.ref T) kV doc pm an cdv ct) ⟨us, []⟩ = seqItems? (.ref T) >>= k ∧ k (some its.toArray) = pure (F.ps.zip (us ++ its.drop 0))) ∧
  ∀ (T : Addr) (kV doc pm : Value) (an : Option Addr) (cdv ct : Value) (us its : List Value), us.length = F.ps.length → its.length = 1 → ∃ k, bindArgs (PySem.W.fnOf F.nm F.nm (defArgs F.st) (defBody F.st) (defScope F.st) (.ref T) kV doc pm an cdv ct) ⟨us, []⟩ = seqItems? (.ref T) >>= k ∧ k (some its.toArray) = pure (F.ps.zip (us ++ its.drop 1))
def BindN (F : Fd) : Prop := ∀ (kV doc pm : Value) (an : Option Addr) (cdv ct : Value) (us : List Value), us.length = F.ps.length → bindArgs (PySem.W.fnOf F.nm F.nm (defArgs F.st) (defBody F.st) (defScope F.st) .none kV doc pm an cdv ct) ⟨us, []⟩ = pure (F.ps.zip us)
def BindP (F : Fd) : Prop := match F.df with
  | true => BindD F
  | false => BindN F
def fnDT (defs : List Fd) : List (Str × Nat) := (defs.filter (·.df)).map fun F => (F.nm, F.id)
def fnT (defs : List Fd) : List (Str × Nat) := defs.map fun F => (F.nm, F.id)
/-- an __init__ of an own error: the class, the qualified name, the def, its parameters -/
structure Fi where
  c : Nat
  qual : Str
  st : Stmt
  ps : List Str
def isDefS : Stmt → Bool
  | .FunctionDef .. => true
  | _ => false
def initSt (st : Stmt) : Stmt := match st with
  | .ClassDef _ _ _ body _ _ _ _ _ _ _ => (body.find? isDefS).getD st
  | s => s
def iniA (K : PySem.W.Frag) (I : Fi) : Addr := He.ma K (Cof K I.c) "__init__"
def iniB (K : PySem.W.Frag) (I : Fi) : Bool := oexB K (Cof K I.c) && (decide (PySem.W.findIn K (.ref (Cof K I.c)) "__init__" = some (some (.ref (iniA K I)))) && (decide (PySem.W.typeIn K (.ref (iniA K I)) = some (.type "function")) && decide (PySem.W.findIn K (.ref (Cof K I.c)) (fname (I.c - 13)) = some none)))
def BindI (I : Fi) : Prop := ∀ (kV doc pm : Value) (an : Option Addr) (cdv ct : Value) (us : List Value), us.length = I.ps.length → bindArgs (PySem.W.fnOf "__init__" I.qual (defArgs I.st) (defBody I.st) (defScope I.st) .none kV doc pm an cdv ct) ⟨us, []⟩ = pure (I.ps.zip us)
def rcF (defs : List Fd) (gl cl : List Nat) (inis : List Fi) (F : Fd) : Rc := ⟨F.N, defScope F.st, [], true, fnT defs, clTab cl, gl, decide (cl = List.range 15), fnDT defs, inis.map (·.c)⟩
def scopeB (N ps : List Str) (sc : Scope) : Bool := decide (sc.kind = .function) && (!sc.isCoroutine && (!sc.isGenerator && (decide N.Nodup && (decide (N.take ps.length = ps) && (ps.all (fun x => decide (sc.names.lookup x = some .local) || decide (sc.names.lookup x = some .cell)) && sc.names.all fun y => decide (y.2 ≠ .free))))))
theorem scope_ok {N ps : List Str} {sc : Scope} (h : scopeB N ps sc = true) : FnScope N ps sc := by
  unfold scopeB at h
  obtain ⟨h1, k1⟩ := and2 h
  obtain ⟨h2, k2⟩ := and2 k1
  obtain ⟨h3, k3⟩ := and2 k2
  obtain ⟨h4, k4⟩ := and2 k3
  obtain ⟨h5, k5⟩ := and2 k4
  obtain ⟨h6, h7⟩ := and2 k5
  refine ⟨of_decide_eq_true h1, by simpa using h2, by simpa using h3, of_decide_eq_true h4, of_decide_eq_true h5, fun x hx => ?_, fun y hy => ?_⟩
  · simpa using List.all_eq_true.mp h6 x hx
  · exact of_decide_eq_true (List.all_eq_true.mp h7 y hy)
def iniT (I : Fi) : Bool := initB (fname (I.c - 13)) I.ps (defBody I.st) (defScope I.st) && scopeB I.ps I.ps (defScope I.st)
def defB (defs : List Fd) (gl cl : List Nat) (inis : List Fi) (F : Fd) : Bool := scopeB F.N F.ps (defScope F.st) && (decide (F.d.np = F.ps.length) && (decide (F.d.ns = F.N.length) && cSs (rcF defs gl cl inis F) F.d.body (defBody F.st)))
def PhiOf (defs : List Fd) (g : Nat) : Option Def := (defs.find? fun F => F.id == g).map (·.d)
theorem fnT_ok {defs : List Fd} {x : Str} {g : Nat} (h : (fnT defs).lookup x = some g) : ∃ F ∈ defs, F.nm = x ∧ F.id = g := by
  obtain ⟨F, hF, e⟩ := List.mem_map.mp (mem_of_lookup h)
  cases e
  exact ⟨F, hF, rfl, rfl⟩
/-- what the head told of a program -/
structure Told (defs : List Fd) (gl cl : List Nat) (inis : List Fi) (K : PySem.W.Frag) : Prop where
  ex : exB gl cl K = true
  nm : ∀ F ∈ defs, PySem.W.nsIn K mainGlobals F.nm = some (some (.ref (He.ga K F.nm)))
  fd : ∀ F ∈ defs, ∃ fd, FunD K F.nm F.nm (defArgs F.st) (defBody F.st) (defScope F.st) (dfV F K) [] (He.ga K F.nm) fd
  em : ∀ F ∈ defs, F.df = true → emptyB K (dfl0 F K) = true
  ini : ∀ I ∈ inis, iniB K I = true ∧ ∃ fd, FunD K "__init__" I.qual (defArgs I.st) (defBody I.st) (defScope I.st) [] [] (iniA K I) fd
/-- the whole look, with the defaults -/
def exM (defs : List Fd) (gl cl : List Nat) (inis : List Fi) (K : PySem.W.Frag) : Bool := exB gl cl K && ((defs.all fun F => !F.df || emptyB K (dfl0 F K)) && inis.all (iniB K))
theorem exM_ex {defs : List Fd} {gl cl : List Nat} {inis : List Fi} {K : PySem.W.Frag} (h : exM defs gl cl inis K = true) : exB gl cl K = true := (and2 h).1
theorem exM_ini {defs : List Fd} {gl cl : List Nat} {inis : List Fi} {K : PySem.W.Frag} (h : exM defs gl cl inis K = true) : ∀ I ∈ inis, iniB K I = true := List.all_eq_true.mp (and2 (and2 h).2).2
theorem exM_em {defs : List Fd} {gl cl : List Nat} {inis : List Fi} {K : PySem.W.Frag} (h : exM defs gl cl inis K = true) : ∀ F ∈ defs, F.df = true → emptyB K (dfl0 F K) = true := fun F hF e => by
  have := List.all_eq_true.mp (and2 (and2 h).2).1 F hF
  rw [e] at this
  simpa using this
theorem dfs_ok {K : PySem.W.Frag} {F : Fd} {a : Addr} (h : ∃ fd, FunD K F.nm F.nm (defArgs F.st) (defBody F.st) (defScope F.st) ((if F.df then [He.Dv.adr (dfl0 F)] else []).map (He.Dv.v K)) [] a fd) : ∃ fd, FunD K F.nm F.nm (defArgs F.st) (defBody F.st) (defScope F.st) (dfV F K) [] a fd := by
  obtain ⟨fd, h⟩ := h
  refine ⟨fd, ?_⟩
  unfold dfV
  cases q : F.df with
  | true => rw [q] at h; exact h
  | false => rw [q] at h; exact h
section
variable {defs : List Fd} {gl cl : List Nat} {inis : List Fi} {K : PySem.W.Frag} {P : Program} {w : World} {mg : Str → Option Value} {base : Heap}
theorem allFn (T : Told defs gl cl inis K) (X : K.In base) (G : base.Ns mainGlobals mg) (hB : AllF BindP defs) (hΦ : AllF (fun F => PhiOf defs F.id = some F.d) defs) (hD : AllF (fun F => defB defs gl cl inis F = true) defs) (hI : ∀ I ∈ inis, iniT I = true ∧ BindI I) :
    ∀ (n : Nat) (F : Fd), F ∈ defs → ∀ fd, FunD K F.nm F.nm (defArgs F.st) (defBody F.st) (defScope F.st) (dfV F K) [] (He.ga K F.nm) fd → FnG P w K mg base n (He.ga K F.nm) fd F.ps (spF (PhiOf defs) K (Cof K) n F.id) := by
  intro n
  induction n with
  | zero =>
    intro F hF fd hfd
    exact ⟨fun vs H Q E h => by obtain ⟨_, _, _, _, _, m⟩ := h; exact m.elim, fun A outer s H args us vs Q E _ _ _ _ _ h => by obtain ⟨_, _, _, _, _, m⟩ := h; exact m.elim⟩
  | succ n ih =>
    intro F hF fd hfd
    obtain ⟨d1, k1⟩ := and2 (AllF.mem hD F hF)
    obtain ⟨d2, k2⟩ := and2 k1
    obtain ⟨d3, d4⟩ := and2 k2
    obtain ⟨oc, od, dV, kV, doc, pm, an, cdv, ct, osl, rfl, lk, hcd, _, _⟩ := hfd.ex
    have sc := scope_ok d1
    refine fnG_of lk hcd sc (AllF.mem hΦ F hF) (of_decide_eq_true d2) (of_decide_eq_true d3) d4 fun A outer s H E hg hr => ⟨⟨rfl, rfl, sc.nd, rfl, rfl, takes_of rfl rfl rfl rfl, hr, hg, fun _ _ => rfl, exB_free T.ex X G, exB_glo T.ex X G, fun x g hx => ?_, fun x g hx => ?_, fun x c hx => ?_, fun q => exB_cls (by have := of_decide_eq_true q; rw [← this]; exact T.ex), exB_mak T.ex, fun c hc => ?_⟩, sc.kind, passes_of rfl, rfl, rfl, rfl⟩
    · obtain ⟨F', hF', rfl, rfl⟩ := fnT_ok hx
      obtain ⟨fd', hfd'⟩ := T.fd F' hF'
      refine ⟨_, fd', F'.ps, PySem.W.mg_of X G (T.nm F' hF'), hfd'.kp, ?_, ih F' hF' fd' hfd'⟩
      have b := AllF.mem hB F' hF'
      unfold BindP at b
      cases q : F'.df with
      | false =>
        rw [q] at b
        have e : dfV F' K = [] := by unfold dfV; rw [q]; rfl
        rw [e] at hfd'
        exact hfd'.bindsN b
      | true =>
        rw [q] at b
        have e : dfV F' K = [.ref (dfl0 F' K)] := by unfold dfV; rw [q]; rfl
        rw [e] at hfd'
        obtain ⟨ds, v, bb⟩ := hfd'.binds1 F'.ps.length 1 (by simp) (by simp) b.2.2
        cases v
        exact bb
    · obtain ⟨F', hF', e⟩ := List.mem_map.mp (mem_of_lookup hx)
      cases e
      obtain ⟨hF', hdf⟩ := List.mem_filter.mp hF'
      obtain ⟨fd', hfd'⟩ := T.fd F' hF'
      have b := AllF.mem hB F' hF'
      unfold BindP at b
      rw [hdf] at b
      have hpos := b.1
      have e : dfV F' K = [.ref (dfl0 F' K)] := by unfold dfV; rw [hdf]; rfl
      have hfd2 := hfd'
      rw [e] at hfd2
      obtain ⟨ds, v, bb⟩ := hfd2.binds1 (F'.ps.length - 1) 0 (by simp) (by simp; omega) (fun T kV doc pm an cdv ct us its h1 h2 => b.2.1 T kV doc pm an cdv ct us its (by omega) h2)
      exact ⟨_, fd', F'.ps, _, ds, PySem.W.mg_of X G (T.nm F' hF'), hfd'.kp, bb, v, emptyB_ok (T.em F' hF' hdf), ih F' hF' fd' hfd'⟩
    · obtain ⟨h1, h2, h3, h4, h5⟩ := exB_names T.ex X G hx
      exact ⟨h1, h2, h3, raises_own h4 h5⟩
    · obtain ⟨J, hJ, rfl⟩ := List.mem_map.mp hc
      obtain ⟨b1, fd', hfd'⟩ := T.ini J hJ
      obtain ⟨t1, t2⟩ := hI J hJ
      obtain ⟨t3, t4⟩ := and2 t1
      unfold iniB at b1
      obtain ⟨b2, k2⟩ := and2 b1
      obtain ⟨b3, k3⟩ := and2 k2
      obtain ⟨b4, b5⟩ := and2 k3
      exact ⟨oex_ok b2, iniA K J, fd', J.ps, of_decide_eq_true b3, of_decide_eq_true b4, init_ok hfd' (scope_ok t4) t3 (oex_ok b2) (of_decide_eq_true b5), hfd'.bindsN t2⟩
/-- the law's def answers true on every script, if its meaning does -/
theorem law_spec (T : Told defs gl cl inis K) {L : Fd} (hL : L ∈ defs) {n : Nat} {ns : List Int} {H : Hp} {a : Addr} (kz : KZ K H) (hS : SqF K H a (ns.map V.int)) (h : ∃ S', callN (PhiOf defs) n L.id [.scr ns] [] = .ok (.bl true) S') : spF (PhiOf defs) K (Cof K) n L.id [.ref a] H (fun v _ => v = .bl true) fun _ _ _ => False := by
  obtain ⟨S', h⟩ := h
  refine ⟨⟨[], []⟩, [], [.scr ns], ⟨⟨List.nodup_nil, rfl, fun k a o e => (by cases e), fun a ha => (by cases ha)⟩, kz⟩, ⟨_, [], rfl, ⟨a, rfl, hS⟩, rfl⟩, ?_⟩
  rw [h]
  exact fun v H' μ' _ _ i => i
end
end SL
set_option Elab.async false
set_option linter.all false
set_option maxRecDepth 100000
set_option maxHeartbeats 0
namespace SL
def f1_is_right_word : Def := ⟨1, 2, (.cons (.ret (.and (.isi (.var 0) [.str]) (.blt .all (.cons (.comp (.cmp .isin (.var 1) (.glo 0)) (.name 1) (.val (.var 0)) .no [1]) .nil)))) .nil)⟩
def f2_is_right_pattern : Def := ⟨1, 2, (.cons (.ifs (.or (.not (.isi (.var 0) [.tup])) (.or (.cmp .eq (.var 0) (.tup .nil)) (.not (.isi (.sub (.var 0) (.cst (.int 0))) [.str])))) (.cons (.ret (.cst (.bl false))) .nil) .nil) (.cons (.ifs (.cmp .isin (.sub (.var 0) (.cst (.int 0))) (.tup (.cons (.cst (.str [110, 111, 110, 101])) (.cons (.cst (.str [101, 109, 112, 116, 121])) .nil)))) (.cons (.ret (.cmp .eq (.blt .len (.cons (.var 0) .nil)) (.cst (.int 1)))) .nil) .nil) (.cons (.ifs (.cmp .eq (.sub (.var 0) (.cst (.int 0))) (.cst (.str [115, 105, 103, 110]))) (.cons (.ret (.and (.cmp .eq (.blt .len (.cons (.var 0) .nil)) (.cst (.int 2))) (.and (.call 1 (.cons (.sub (.var 0) (.cst (.int 1))) .nil)) (.cmp .eq (.blt .len (.cons (.sub (.var 0) (.cst (.int 1))) .nil)) (.cst (.int 1)))))) .nil) .nil) (.cons (.ifs (.cmp .eq (.sub (.var 0) (.cst (.int 0))) (.cst (.str [115, 116, 97, 114]))) (.cons (.ret (.and (.cmp .eq (.blt .len (.cons (.var 0) .nil)) (.cst (.int 2))) (.call 2 (.cons (.sub (.var 0) (.cst (.int 1))) .nil)))) .nil) .nil) (.cons (.ret (.and (.cmp .isin (.sub (.var 0) (.cst (.int 0))) (.tup (.cons (.cst (.str [111, 114])) (.cons (.cst (.str [116, 104, 101, 110])) .nil)))) (.and (.cmp .eq (.blt .len (.cons (.var 0) .nil)) (.cst (.int 3))) (.blt .all (.cons (.comp (.call 2 (.cons (.var 1) .nil)) (.name 1) (.val (.slc (.var 0) (.yes (.cst (.int 1))) .no)) .no [1]) .nil))))) .nil)))))⟩
def f3_look_at_pattern : Def := ⟨1, 1, (.cons (.ifs (.not (.call 2 (.cons (.var 0) .nil))) (.cons (.raise 1 .nil) .nil) .nil) .nil)⟩
def f6_signs_in : Def := ⟨1, 2, (.cons (.ifs (.cmp .eq (.sub (.var 0) (.cst (.int 0))) (.cst (.str [115, 105, 103, 110]))) (.cons (.ret (.sub (.var 0) (.cst (.int 1)))) .nil) .nil) (.cons (.ret (.mth .join (.cst (.str [])) (.cons (.comp (.call 6 (.cons (.var 1) .nil)) (.name 1) (.val (.slc (.var 0) (.yes (.cst (.int 1))) .no)) .no [1]) .nil))) .nil))⟩
def f7_signs_once : Def := ⟨1, 2, (.cons (.ret (.mth .join (.cst (.str [])) (.cons (.comp (.var 1) (.name 1) (.val (.glo 0)) (.yes (.cmp .isin (.var 1) (.var 0))) [1]) .nil))) .nil)⟩
def f8_signs_of : Def := ⟨1, 1, (.cons (.exp (.call 3 (.cons (.var 0) .nil))) (.cons (.ret (.call 7 (.cons (.call 6 (.cons (.var 0) .nil)) .nil))) .nil))⟩
def f9_empties : Def := ⟨1, 1, (.cons (.ifs (.cmp .eq (.sub (.var 0) (.cst (.int 0))) (.cst (.str [111, 114]))) (.cons (.ret (.or (.call 9 (.cons (.sub (.var 0) (.cst (.int 1))) .nil)) (.call 9 (.cons (.sub (.var 0) (.cst (.int 2))) .nil)))) .nil) .nil) (.cons (.ifs (.cmp .eq (.sub (.var 0) (.cst (.int 0))) (.cst (.str [116, 104, 101, 110]))) (.cons (.ret (.and (.call 9 (.cons (.sub (.var 0) (.cst (.int 1))) .nil)) (.call 9 (.cons (.sub (.var 0) (.cst (.int 2))) .nil)))) .nil) .nil) (.cons (.ret (.cmp .isin (.sub (.var 0) (.cst (.int 0))) (.tup (.cons (.cst (.str [101, 109, 112, 116, 121])) (.cons (.cst (.str [115, 116, 97, 114])) .nil))))) .nil)))⟩
def f10_has_empty : Def := ⟨1, 1, (.cons (.exp (.call 3 (.cons (.var 0) .nil))) (.cons (.ret (.call 9 (.cons (.var 0) .nil))) .nil))⟩
def f11_L_mixed : Def := ⟨2, 3, (.cons (.asg (.name 2) (.bin .mod (.blt .int (.cons (.bin .add (.bin .add (.bin .mul (.bin .mod (.blt .int (.cons (.var 0) .nil)) (.cst (.int 2147483647))) (.cst (.int 48271))) (.bin .mul (.var 1) (.cst (.int 69621)))) (.cst (.int 1048583))) .nil)) (.cst (.int 2147483629)))) (.cons (.asg (.name 2) (.bin .mod (.blt .int (.cons (.bin .mul (.var 2) (.var 2)) .nil)) (.cst (.int 2147483587)))) (.cons (.ret (.bin .mod (.blt .int (.cons (.bin .mul (.var 2) (.bin .add (.var 2) (.cst (.int 2)))) .nil)) (.cst (.int 2147483579)))) .nil)))⟩
def f12_L_pile : Def := ⟨2, 5, (.cons (.asg (.name 2) (.cst (.int 0))) (.cons (.ifs (.cmp .lt (.var 1) (.blt .len (.cons (.var 0) .nil))) (.cons (.asg (.name 2) (.sub (.var 0) (.var 1))) .nil) .nil) (.cons (.ifs (.cmp .ge (.var 2) (.bin .pow (.cst (.int 10)) (.cst (.int 18)))) (.cons (.ret (.newL (.cons (.bin .mod (.blt .int (.cons (.bin .sub (.var 2) (.bin .pow (.cst (.int 10)) (.cst (.int 18)))) .nil)) (.bin .mul (.bin .mul (.bin .mul (.bin .pow (.cst (.int 10)) (.cst (.int 60))) (.bin .pow (.cst (.int 10)) (.cst (.int 60)))) (.bin .pow (.cst (.int 10)) (.cst (.int 60)))) (.bin .pow (.cst (.int 10)) (.cst (.int 60))))) .nil))) .nil) .nil) (.cons (.asg (.name 3) (.cst (.int 0))) (.cons (.fors (.name 4) (.range1 (.cst (.int 24))) (.cons (.asg (.name 3) (.bin .add (.bin .mul (.var 3) (.cst (.int 2147483579))) (.call 11 (.cons (.var 2) (.cons (.bin .add (.bin .add (.bin .mul (.cst (.int 7)) (.var 1)) (.bin .mul (.cst (.int 100)) (.var 4))) (.bin .mul (.var 4) (.var 4))) .nil))))) .nil)) (.cons (.ret (.newL (.cons (.var 3) .nil))) .nil))))))⟩
def f13_L_take : Def := ⟨2, 3, (.cons (.asg (.name 2) (.bin .mod (.blt .int (.cons (.sub (.var 0) (.cst (.int 0))) .nil)) (.var 1))) (.cons (.put (.var 0) (.cst (.int 0)) (.bin .fdiv (.sub (.var 0) (.cst (.int 0))) (.var 1))) (.cons (.ret (.var 2)) .nil)))⟩
def f14_L_letters : Def := ⟨1, 1, (.cons (.ret (.sub (.lst (.cons (.cst (.str [97])) (.cons (.cst (.str [97, 98])) (.cons (.cst (.str [97, 98])) (.cons (.cst (.str [97, 98])) (.cons (.cst (.str [97, 98, 99])) (.cons (.cst (.str [98, 104])) (.cons (.cst (.str [97, 99, 103])) .nil)))))))) (.call 13 (.cons (.var 0) (.cons (.cst (.int 7)) .nil))))) .nil)⟩
def f15_L_leaf : Def := ⟨3, 4, (.cons (.asg (.name 3) (.call 13 (.cons (.var 0) (.cons (.cst (.int 9)) .nil)))) (.cons (.augS (.var 2) (.cst (.int 1)) .sub (.cst (.int 1))) (.cons (.ifs (.or (.cmp .eq (.var 3) (.cst (.int 0))) (.cmp .eq (.sub (.var 2) (.cst (.int 0))) (.cst (.int 0)))) (.cons (.ret (.sub (.lst (.cons (.tup (.cons (.cst (.str [101, 109, 112, 116, 121])) .nil)) (.cons (.tup (.cons (.cst (.str [110, 111, 110, 101])) .nil)) .nil))) (.blt .int (.cons (.cmp .eq (.call 13 (.cons (.var 0) (.cons (.cst (.int 5)) .nil))) (.cst (.int 0))) .nil)))) .nil) .nil) (.cons (.augS (.var 2) (.cst (.int 0)) .sub (.cst (.int 1))) (.cons (.ret (.tup (.cons (.cst (.str [115, 105, 103, 110])) (.cons (.sub (.var 1) (.call 13 (.cons (.var 0) (.cons (.blt .len (.cons (.var 1) .nil)) .nil)))) .nil)))) .nil)))))⟩
def f16_L_pattern : Def := ⟨4, 6, (.cons (.asg (.name 4) (.call 13 (.cons (.var 0) (.cons (.cst (.int 10)) .nil)))) (.cons (.ifs (.or (.cmp .eq (.var 3) (.cst (.int 0))) (.or (.cmp .lt (.sub (.var 2) (.cst (.int 1))) (.cst (.int 3))) (.cmp .lt (.var 4) (.cst (.int 2))))) (.cons (.ret (.call 15 (.cons (.var 0) (.cons (.var 1) (.cons (.var 2) .nil))))) .nil) .nil) (.cons (.augS (.var 2) (.cst (.int 1)) .sub (.cst (.int 1))) (.cons (.ifs (.cmp .lt (.var 4) (.cst (.int 5))) (.cons (.ret (.tup (.cons (.cst (.str [115, 116, 97, 114])) (.cons (.call 16 (.cons (.var 0) (.cons (.var 1) (.cons (.var 2) (.cons (.bin .sub (.var 3) (.cst (.int 1))) .nil))))) .nil)))) .nil) .nil) (.cons (.augS (.var 2) (.cst (.int 1)) .sub (.cst (.int 1))) (.cons (.asg (.name 5) (.call 16 (.cons (.var 0) (.cons (.var 1) (.cons (.var 2) (.cons (.bin .sub (.var 3) (.cst (.int 1))) .nil)))))) (.cons (.augS (.var 2) (.cst (.int 1)) .add (.cst (.int 1))) (.cons (.ret (.tup (.cons (.sub (.lst (.cons (.cst (.str [111, 114])) (.cons (.cst (.str [116, 104, 101, 110])) .nil))) (.bin .mod (.var 4) (.cst (.int 2)))) (.cons (.var 5) (.cons (.call 16 (.cons (.var 0) (.cons (.var 1) (.cons (.var 2) (.cons (.bin .sub (.var 3) (.cst (.int 1))) .nil))))) .nil))))) .nil))))))))⟩
def f17_L_drawn : Def := ⟨3, 3, (.cons (.ret (.call 16 (.cons (.var 0) (.cons (.var 1) (.cons (.newL (.cons (.var 2) (.cons (.bin .add (.bin .mul (.cst (.int 3)) (.var 2)) (.cst (.int 2))) .nil))) (.cons (.bin .add (.cst (.int 1)) (.call 13 (.cons (.var 0) (.cons (.cst (.int 4)) .nil)))) .nil)))))) .nil)⟩
def f21_L_is_word : Def := ⟨1, 2, (.cons (.ret (.and (.isi (.var 0) [.str]) (.cmp .eq (.comp (.var 1) (.name 1) (.val (.var 0)) (.yes (.cmp .notin (.var 1) (.cst (.str [97, 98, 99, 100, 101, 102, 103, 104])))) [1]) (.lst .nil)))) .nil)⟩
def f22_L_is_pattern : Def := ⟨1, 1, (.cons (.ifs (.or (.not (.isi (.var 0) [.tup])) (.or (.cmp .eq (.var 0) (.tup .nil)) (.not (.isi (.sub (.var 0) (.cst (.int 0))) [.str])))) (.cons (.ret (.cst (.bl false))) .nil) .nil) (.cons (.ifs (.cmp .isin (.var 0) (.lst (.cons (.tup (.cons (.cst (.str [110, 111, 110, 101])) .nil)) (.cons (.tup (.cons (.cst (.str [101, 109, 112, 116, 121])) .nil)) .nil)))) (.cons (.ret (.cst (.bl true))) .nil) .nil) (.cons (.ifs (.cmp .eq (.sub (.var 0) (.cst (.int 0))) (.cst (.str [115, 105, 103, 110]))) (.cons (.ret (.and (.cmp .eq (.blt .len (.cons (.var 0) .nil)) (.cst (.int 2))) (.and (.call 21 (.cons (.sub (.var 0) (.cst (.int 1))) .nil)) (.cmp .eq (.blt .len (.cons (.sub (.var 0) (.cst (.int 1))) .nil)) (.cst (.int 1)))))) .nil) .nil) (.cons (.ifs (.cmp .eq (.sub (.var 0) (.cst (.int 0))) (.cst (.str [115, 116, 97, 114]))) (.cons (.ret (.and (.cmp .eq (.blt .len (.cons (.var 0) .nil)) (.cst (.int 2))) (.call 22 (.cons (.sub (.var 0) (.cst (.int 1))) .nil)))) .nil) .nil) (.cons (.ifs (.or (.cmp .notin (.sub (.var 0) (.cst (.int 0))) (.lst (.cons (.cst (.str [111, 114])) (.cons (.cst (.str [116, 104, 101, 110])) .nil)))) (.cmp .ne (.blt .len (.cons (.var 0) .nil)) (.cst (.int 3)))) (.cons (.ret (.cst (.bl false))) .nil) .nil) (.cons (.ret (.and (.call 22 (.cons (.sub (.var 0) (.cst (.int 1))) .nil)) (.call 22 (.cons (.sub (.var 0) (.cst (.int 2))) .nil)))) .nil))))))⟩
def f27_L_flags : Def := ⟨1, 2, (.cons (.asg (.name 1) (.lst (.cons (.isi (.var 0) [(.own 1)]) (.cons (.isi (.var 0) [(.own 2)]) (.cons (.isi (.var 0) [(.own 4)]) .nil))))) (.cons (.asg (.name 1) (.bin .add (.var 1) (.lst (.cons (.isi (.var 0) [(.own 5)]) (.cons (.isi (.var 0) [(.own 6)]) (.cons (.isi (.var 0) [(.own 13)]) .nil)))))) (.cons (.asg (.name 1) (.bin .add (.var 1) (.lst (.cons (.isi (.var 0) [(.own 3)]) (.cons (.isi (.var 0) [(.own 7)]) (.cons (.isi (.var 0) [(.own 8)]) .nil)))))) (.cons (.asg (.name 1) (.bin .add (.var 1) (.lst (.cons (.isi (.var 0) [(.own 10)]) (.cons (.isi (.var 0) [(.own 11)]) (.cons (.isi (.var 0) [(.own 12)]) .nil)))))) (.cons (.ret (.bin .add (.var 1) (.lst (.cons (.isi (.var 0) [(.own 9)]) (.cons (.isi (.var 0) [(.own 14)]) .nil))))) .nil)))))⟩
def f28_L_error : Def := ⟨1, 3, (.cons (.ifs (.isN (.var 0)) (.cons (.ret (.cst (.str []))) .nil) .nil) (.cons (.asg (.name 1) (.call 27 (.cons (.var 0) .nil))) (.cons (.ifs (.or (.cmp .ne (.mth .count (.var 1) (.cons (.cst (.bl true)) .nil)) (.cst (.int 1))) (.or (.not (.isi (.var 0) [(.own 0)])) (.not (.isi (.var 0) [.ve])))) (.cons (.ret (.cst (.str [111, 116, 104, 101, 114]))) .nil) .nil) (.cons (.asg (.name 2) (.lst (.cons (.cst (.str [112, 97, 116, 116, 101, 114, 110])) (.cons (.cst (.str [119, 111, 114, 100])) (.cons (.cst (.str [116, 111, 108, 100])) (.cons (.cst (.str [115, 105, 103, 110, 115])) (.cons (.cst (.str [108, 105, 110, 101, 115])) (.cons (.cst (.str [112, 97, 114, 116, 101, 100])) (.cons (.cst (.str [108, 101, 110, 103, 116, 104])) (.cons (.cst (.str [108, 105, 110, 101])) (.cons (.cst (.str [110, 117, 109, 98, 101, 114])) (.cons (.cst (.str [114, 111, 119, 115])) (.cons (.cst (.str [109, 97, 110, 121])) (.cons (.cst (.str [111, 110, 101])) .nil)))))))))))))) (.cons (.ret (.sub (.bin .add (.var 2) (.lst (.cons (.cst (.str [117, 110, 108, 105, 107, 101])) (.cons (.cst (.str [116, 101, 120, 116])) .nil)))) (.mth .index (.var 1) (.cons (.cst (.bl true)) .nil)))) .nil)))))⟩
def f23_L_bad_patterns : Def := ⟨1, 2, (.cons (.asg (.name 1) (.lst (.cons (.cst .non) (.cons (.cst (.int 0)) (.cons (.cst (.str [])) (.cons (.cst (.str [97])) (.cons (.tup .nil) (.cons (.lst .nil) (.cons (.tup (.cons (.cst (.str [110, 111, 110, 101])) (.cons (.var 0) .nil))) (.cons (.tup (.cons (.cst (.str [101, 109, 112, 116, 121])) (.cons (.cst (.str [97])) .nil))) (.cons (.tup (.cons (.cst (.str [115, 105, 103, 110])) .nil)) (.cons (.tup (.cons (.cst (.str [115, 105, 103, 110])) (.cons (.cst (.str [105])) .nil))) (.cons (.tup (.cons (.cst (.str [115, 105, 103, 110])) (.cons (.cst (.str [])) .nil))) .nil))))))))))))) (.cons (.asg (.name 1) (.bin .add (.var 1) (.lst (.cons (.tup (.cons (.cst (.str [115, 105, 103, 110])) (.cons (.cst (.str [97, 98])) .nil))) (.cons (.tup (.cons (.cst (.str [115, 105, 103, 110])) (.cons (.var 0) .nil))) (.cons (.tup (.cons (.cst (.str [115, 105, 103, 110])) (.cons (.cst (.str [65])) .nil))) (.cons (.tup (.cons (.cst (.str [115, 105, 103, 110])) (.cons (.cst (.int 0)) .nil))) (.cons (.tup (.cons (.cst (.str [115, 105, 103, 110])) (.cons (.cst (.str [97])) (.cons (.cst (.str [98])) .nil)))) (.cons (.tup (.cons (.cst (.str [111, 114])) (.cons (.var 0) .nil))) .nil))))))))) (.cons (.asg (.name 1) (.bin .add (.var 1) (.lst (.cons (.tup (.cons (.cst (.str [116, 104, 101, 110])) (.cons (.var 0) (.cons (.var 0) (.cons (.var 0) .nil))))) (.cons (.tup (.cons (.cst (.str [115, 116, 97, 114])) .nil)) (.cons (.tup (.cons (.cst (.str [115, 116, 97, 114])) (.cons (.var 0) (.cons (.var 0) .nil)))) (.cons (.tup (.cons (.cst (.str [115, 116, 97, 114])) (.cons (.cst (.str [97])) .nil))) (.cons (.tup (.cons (.cst (.str [115, 116, 97, 114])) (.cons (.lst .nil) .nil))) (.cons (.lst (.cons (.cst (.str [115, 116, 97, 114])) (.cons (.var 0) .nil))) .nil))))))))) (.cons (.asg (.name 1) (.bin .add (.var 1) (.lst (.cons (.tup (.cons (.cst (.str [111, 114])) (.cons (.var 0) (.cons (.cst .non) .nil)))) (.cons (.tup (.cons (.cst (.str [111, 114])) (.cons (.cst .non) (.cons (.var 0) .nil)))) (.cons (.tup (.cons (.var 0) (.cons (.var 0) .nil))) (.cons (.tup (.cons (.cst (.str [116, 104, 101, 110])) (.cons (.tup (.cons (.cst (.str [115, 105, 103, 110])) (.cons (.cst (.str [122])) .nil))) (.cons (.var 0) .nil)))) (.cons (.tup (.cons (.cst (.str [116, 104, 101, 110])) (.cons (.var 0) (.cons (.lst (.cons (.cst (.str [110, 111, 110, 101])) .nil)) .nil)))) .nil)))))))) (.cons (.asg (.name 1) (.bin .add (.var 1) (.lst (.cons (.tup (.cons (.cst (.str [79, 114])) (.cons (.var 0) (.cons (.var 0) .nil)))) (.cons (.tup (.cons (.cst (.str [97, 110, 100])) (.cons (.var 0) (.cons (.var 0) .nil)))) (.cons (.tup (.cons (.cst (.str [115, 116, 97, 114])) (.cons (.tup (.cons (.cst (.str [115, 116, 97, 114])) .nil)) .nil))) (.cons (.cst (.bl true)) (.cons (.tup (.cons (.cst (.str [111, 114])) (.cons (.tup (.cons (.cst (.str [111, 114])) (.cons (.var 0) (.cons (.tup (.cons (.cst (.str [110, 111, 110, 101])) (.cons (.cst (.int 0)) .nil))) .nil)))) (.cons (.var 0) .nil)))) .nil)))))))) (.cons (.ret (.bin .add (.var 1) (.lst (.cons (.bin .add (.tup (.cons (.cst (.str [110, 111, 110, 101])) .nil)) (.var 0)) (.cons (.tup (.cons (.cst (.str [111, 114])) (.cons (.var 0) (.cons (.var 0) (.cons (.var 0) .nil))))) (.cons (.tup (.cons (.cst (.str [116, 104, 101, 110])) (.cons (.var 0) .nil))) (.cons (.tup (.cons (.cst (.int 0)) (.cons (.var 0) .nil))) (.cons (.blt .list (.cons (.var 0) .nil)) (.cons (.tup (.cons (.cst (.str [119, 111, 114, 100])) (.cons (.cst (.str [97])) .nil))) (.cons (.tup (.cons (.cst .non) (.cons (.var 0) .nil))) (.cons (.cst (.str [110, 111, 110, 101])) .nil))))))))))) .nil))))))⟩
def f29_L_word : Def := ⟨2, 5, (.cons (.asg (.name 2) (.blt .repr (.cons (.var 1) .nil))) (.cons (.asg (.name 3) (.cst .non)) (.cons (.trys (.cons (.ifs (.cmp .eq (.var 0) (.cst (.int 0))) (.cons (.exp (.call 8 (.cons (.var 1) .nil))) .nil) (.cons (.exp (.call 10 (.cons (.var 1) .nil))) .nil)) .nil) 0 4 3) (.cons (.ifs (.cmp .ne (.blt .repr (.cons (.var 1) .nil)) (.var 2)) (.cons (.ret (.cst (.str [99, 104, 97, 110, 103, 101, 100]))) .nil) .nil) (.cons (.ret (.call 28 (.cons (.var 3) .nil))) .nil)))))⟩
def f0_k02 : Def := ⟨1, 6, (.cons (.fors (.name 1) (.range1 (.blt .max (.cons (.cst (.int 2)) (.cons (.blt .min (.cons (.blt .len (.cons (.var 0) .nil)) (.cons (.cst (.int 6)) .nil))) .nil)))) (.cons (.asg (.name 2) (.call 12 (.cons (.var 0) (.cons (.var 1) .nil)))) (.cons (.asg (.name 3) (.call 17 (.cons (.var 2) (.cons (.call 14 (.cons (.var 2) .nil)) (.cons (.cst (.int 8)) .nil))))) (.cons (.fors (.name 4) (.range1 (.cst (.int 2))) (.cons (.ifs (.cmp .ne (.call 29 (.cons (.var 4) (.cons (.var 3) .nil))) (.cst (.str []))) (.cons (.ret (.cst (.bl false))) .nil) .nil) (.cons (.fors (.name 5) (.val (.call 23 (.cons (.var 3) .nil))) (.cons (.ifs (.and (.not (.call 22 (.cons (.var 5) .nil))) (.cmp .ne (.call 29 (.cons (.var 4) (.cons (.var 5) .nil))) (.cst (.str [112, 97, 116, 116, 101, 114, 110])))) (.cons (.ret (.cst (.bl false))) .nil) .nil) .nil)) .nil))) .nil)))) (.cons (.ret (.cst (.bl true))) .nil))⟩
end SL
set_option Elab.async false
set_option linter.all false
set_option maxRecDepth 100000
set_option maxHeartbeats 0
namespace SL
def f4_is_pattern : Def := ⟨1, 1, (.cons (.ret (.call 2 (.cons (.var 0) .nil))) .nil)⟩
def f5_is_word : Def := ⟨1, 1, (.cons (.ret (.call 1 (.cons (.var 0) .nil))) .nil)⟩
def f18_L_ends : Def := ⟨3, 7, (.cons (.asg (.name 3) (.sub (.var 0) (.cst (.int 0)))) (.cons (.ifs (.cmp .eq (.var 3) (.cst (.str [110, 111, 110, 101]))) (.cons (.ret (.lst .nil)) .nil) .nil) (.cons (.ifs (.cmp .eq (.var 3) (.cst (.str [101, 109, 112, 116, 121]))) (.cons (.ret (.var 2)) .nil) .nil) (.cons (.ifs (.cmp .eq (.var 3) (.cst (.str [115, 105, 103, 110]))) (.cons (.ret (.comp (.bin .add (.var 6) (.cst (.int 1))) (.name 6) (.val (.var 2)) (.yes (.cmp .eq (.slc (.var 1) (.yes (.var 6)) (.yes (.bin .add (.var 6) (.cst (.int 1))))) (.sub (.var 0) (.cst (.int 1))))) [6])) .nil) .nil) (.cons (.ifs (.cmp .eq (.var 3) (.cst (.str [111, 114]))) (.cons (.ret (.call 19 (.cons (.bin .add (.call 18 (.cons (.sub (.var 0) (.cst (.int 1))) (.cons (.var 1) (.cons (.var 2) .nil)))) (.call 18 (.cons (.sub (.var 0) (.cst (.int 2))) (.cons (.var 1) (.cons (.var 2) .nil))))) .nil))) .nil) .nil) (.cons (.ifs (.cmp .eq (.var 3) (.cst (.str [116, 104, 101, 110]))) (.cons (.ret (.call 18 (.cons (.sub (.var 0) (.cst (.int 2))) (.cons (.var 1) (.cons (.call 18 (.cons (.sub (.var 0) (.cst (.int 1))) (.cons (.var 1) (.cons (.var 2) .nil)))) .nil))))) .nil) .nil) (.cons (.asg (.name 4) (.var 2)) (.cons (.asg (.name 5) (.var 2)) (.cons (.whl (.cmp .ne (.var 5) (.lst .nil)) (.cons (.asg (.name 5) (.comp (.var 6) (.name 6) (.val (.call 18 (.cons (.sub (.var 0) (.cst (.int 1))) (.cons (.var 1) (.cons (.var 5) .nil))))) (.yes (.cmp .notin (.var 6) (.var 4))) [6])) (.cons (.asg (.name 4) (.bin .add (.var 4) (.var 5))) .nil))) (.cons (.ret (.var 4)) .nil))))))))))⟩
def f19_L_once : Def := ⟨1, 3, (.cons (.asg (.name 1) (.dnew)) (.cons (.fors (.name 2) (.val (.var 0)) (.cons (.put (.var 1) (.var 2) (.cst (.bl true))) .nil)) (.cons (.ret (.keys 1 2)) .nil)))⟩
def f20_L_tells : Def := ⟨2, 2, (.cons (.ret (.cmp .isin (.blt .len (.cons (.var 1) .nil)) (.call 18 (.cons (.var 0) (.cons (.var 1) (.cons (.lst (.cons (.cst (.int 0)) .nil)) .nil)))))) .nil)⟩
def f24_L_bent : Def := ⟨2, 4, (.cons (.ifs (.and (.cmp .isin (.sub (.var 1) (.cst (.int 0))) (.lst (.cons (.cst (.str [111, 114])) (.cons (.cst (.str [116, 104, 101, 110])) (.cons (.cst (.str [115, 116, 97, 114])) .nil))))) (.cmp .gt (.call 13 (.cons (.var 0) (.cons (.cst (.int 3)) .nil))) (.cst (.int 0)))) (.cons (.asg (.name 3) (.bin .add (.cst (.int 1)) (.call 13 (.cons (.var 0) (.cons (.bin .sub (.blt .len (.cons (.var 1) .nil)) (.cst (.int 1))) .nil))))) (.cons (.ret (.bin .add (.bin .add (.slc (.var 1) .no (.yes (.var 3))) (.tup (.cons (.call 24 (.cons (.var 0) (.cons (.sub (.var 1) (.var 3)) .nil))) .nil))) (.slc (.var 1) (.yes (.bin .add (.var 3) (.cst (.int 1)))) .no))) .nil)) .nil) (.cons (.asg (.name 2) (.call 23 (.cons (.var 1) .nil))) (.cons (.ret (.sub (.var 2) (.call 13 (.cons (.var 0) (.cons (.blt .len (.cons (.var 2) .nil)) .nil))))) .nil)))⟩
def f25_L_signs : Def := ⟨1, 2, (.cons (.ifs (.cmp .eq (.sub (.var 0) (.cst (.int 0))) (.cst (.str [115, 105, 103, 110]))) (.cons (.ret (.sub (.var 0) (.cst (.int 1)))) .nil) .nil) (.cons (.ret (.mth .join (.cst (.str [])) (.cons (.comp (.call 25 (.cons (.var 1) .nil)) (.name 1) (.val (.slc (.var 0) (.yes (.cst (.int 1))) .no)) .no [1]) .nil))) .nil))⟩
def f26_L_good : Def := ⟨1, 7, (.cons (.asg (.name 1) (.blt .repr (.cons (.var 0) .nil))) (.cons (.asg (.name 2) (.call 22 (.cons (.var 0) .nil))) (.cons (.asg (.name 3) (.call 4 (.cons (.var 0) .nil))) (.cons (.ifs (.or (.not (.isi (.var 3) [.bool])) (.or (.cmp .ne (.var 3) (.var 2)) (.cmp .ne (.blt .repr (.cons (.var 0) .nil)) (.var 1)))) (.cons (.ret (.cst (.bl false))) .nil) .nil) (.cons (.ifs (.not (.var 2)) (.cons (.ret (.cst (.bl true))) .nil) .nil) (.cons (.asg (.name 4) (.call 25 (.cons (.var 0) .nil))) (.cons (.ifs (.cmp .ne (.call 8 (.cons (.var 0) .nil)) (.mth .join (.cst (.str [])) (.cons (.comp (.var 6) (.name 6) (.val (.cst (.str [97, 98, 99, 100, 101, 102, 103, 104]))) (.yes (.cmp .isin (.var 6) (.var 4))) [6]) .nil))) (.cons (.ret (.cst (.bl false))) .nil) .nil) (.cons (.asg (.name 5) (.call 10 (.cons (.var 0) .nil))) (.cons (.ret (.and (.isi (.var 5) [.bool]) (.and (.cmp .eq (.var 5) (.call 20 (.cons (.var 0) (.cons (.cst (.str [])) .nil)))) (.cmp .eq (.blt .repr (.cons (.var 0) .nil)) (.var 1))))) .nil)))))))))⟩
def f0_k01 : Def := ⟨1, 10, (.cons (.fors (.name 1) (.range1 (.blt .max (.cons (.cst (.int 2)) (.cons (.blt .min (.cons (.blt .len (.cons (.var 0) .nil)) (.cons (.cst (.int 10)) .nil))) .nil)))) (.cons (.asg (.name 4) (.call 12 (.cons (.var 0) (.cons (.var 1) .nil)))) (.cons (.asg (.name 5) (.call 17 (.cons (.var 4) (.cons (.call 14 (.cons (.var 4) .nil)) (.cons (.cst (.int 8)) .nil))))) (.cons (.ifs (.or (.not (.call 26 (.cons (.var 5) .nil))) (.notB true (.call 4 (.cons (.var 5) .nil)))) (.cons (.ret (.cst (.bl false))) .nil) .nil) (.cons (.fors (.name 6) (.range1 (.cst (.int 5))) (.cons (.ifs (.not (.call 26 (.cons (.call 24 (.cons (.var 4) (.cons (.var 5) .nil))) .nil))) (.cons (.ret (.cst (.bl false))) .nil) .nil) .nil)) (.cons (.ifs (.cmp .ne (.comp (.var 3) (.name 3) (.val (.call 23 (.cons (.var 5) .nil))) (.yes (.not (.call 26 (.cons (.var 3) .nil)))) [3]) (.lst .nil)) (.cons (.ret (.cst (.bl false))) .nil) .nil) .nil)))))) (.cons (.asg (.name 2) (.lst (.cons (.cst (.str [])) (.cons (.cst (.str [97])) (.cons (.cst (.str [104])) (.cons (.cst (.str [104, 103, 102, 101, 100, 99, 98, 97])) (.cons (.cst (.str [105])) (.cons (.cst (.str [65])) (.cons (.cst (.str [97, 66])) (.cons (.cst (.str [97, 32, 98])) (.cons (.cst (.str [32])) (.cons (.cst .non) (.cons (.cst (.int 0)) (.cons (.cst (.bl true)) (.cons (.lst (.cons (.cst (.str [97])) .nil)) (.cons (.tup (.cons (.cst (.str [97])) .nil)) (.cons (.cst (.str [97, 98, 10])) (.cons (.tup .nil) (.cons (.lst .nil) .nil))))))))))))))))))) (.cons (.fors (.name 3) (.val (.bin .add (.var 2) (.lst (.cons (.cst (.str [48])) (.cons (.bin .mul (.cst (.str [97])) (.cst (.int 31))) (.cons (.bin .mul (.cst (.str [97, 98, 104])) (.cst (.int 200))) (.cons (.bin .add (.bin .mul (.cst (.str [97, 98, 104])) (.cst (.int 200))) (.cst (.str [105]))) .nil))))))) (.cons (.asg (.name 7) (.call 5 (.cons (.var 3) .nil))) (.cons (.ifs (.or (.not (.isi (.var 7) [.bool])) (.cmp .ne (.var 7) (.call 21 (.cons (.var 3) .nil)))) (.cons (.ret (.cst (.bl false))) .nil) .nil) .nil))) (.cons (.par [8, 9] (.cons (.tup (.cons (.cst (.str [115, 105, 103, 110])) (.cons (.cst (.str [97])) .nil))) (.cons (.tup (.cons (.cst (.str [115, 105, 103, 110])) (.cons (.cst (.str [98])) .nil))) .nil))) (.cons (.fors (.name 1) (.range1 (.cst (.int 5))) (.cons (.asg (.name 8) (.tup (.cons (.cst (.str [111, 114])) (.cons (.var 8) (.cons (.tup (.cons (.cst (.str [116, 104, 101, 110])) (.cons (.var 8) (.cons (.var 8) .nil)))) .nil))))) (.cons (.asg (.name 9) (.tup (.cons (.cst (.str [115, 116, 97, 114])) (.cons (.tup (.cons (.cst (.str [111, 114])) (.cons (.tup (.cons (.cst (.str [115, 116, 97, 114])) (.cons (.var 9) .nil))) (.cons (.tup (.cons (.cst (.str [101, 109, 112, 116, 121])) .nil)) .nil)))) .nil)))) .nil))) (.cons (.ifs (.or (.notB true (.call 4 (.cons (.var 8) .nil))) (.or (.notB true (.call 4 (.cons (.tup (.cons (.cst (.str [111, 114])) (.cons (.var 9) (.cons (.var 8) .nil)))) .nil))) (.call 4 (.cons (.tup (.cons (.cst (.str [111, 114])) (.cons (.var 9) (.cons (.lst (.cons (.var 8) .nil)) .nil)))) .nil)))) (.cons (.ret (.cst (.bl false))) .nil) .nil) (.cons (.ret (.and (.isB true (.call 4 (.cons (.tup (.cons (.cst (.str [115, 105, 103, 110])) (.cons (.cst (.str [104])) .nil))) .nil))) (.isB false (.call 4 (.cons (.tup (.cons (.cst (.str [115, 105, 103, 110])) (.cons (.cst (.str [105])) .nil))) .nil))))) .nil)))))))⟩
end SL
set_option Elab.async false
set_option linter.all false
set_option maxRecDepth 100000
set_option maxHeartbeats 0
namespace SL
def f49_is_whole : Def := ⟨1, 1, (.cons (.ret (.and (.isi (.var 0) [.int]) (.not (.isi (.var 0) [.bool])))) .nil)⟩
def f50_is_below : Def := ⟨2, 2, (.cons (.ret (.and (.call 49 (.cons (.var 0) .nil)) (.and (.cmp .le (.cst (.int 0)) (.var 0)) (.cmp .lt (.var 0) (.var 1))))) .nil)⟩
def f51_look_at_told : Def := ⟨1, 2, (.cons (.ifs (.or (.not (.isi (.var 0) [.lst, .tup])) (.not (.blt .all (.cons (.comp (.call 2 (.cons (.var 1) .nil)) (.name 1) (.val (.var 0)) .no [1]) .nil)))) (.cons (.raise 4 .nil) .nil) .nil) .nil)⟩
def f32_behind_by : Def := ⟨3, 3, (.cons (.ifs (.and (.cmp .eq (.var 0) (.cst (.str [103, 114, 111, 117, 112, 101, 100]))) (.cmp .eq (.sub (.var 1) (.cst (.int 0))) (.cst (.str [116, 104, 101, 110])))) (.cons (.ret (.tup (.cons (.cst (.str [116, 104, 101, 110])) (.cons (.sub (.var 1) (.cst (.int 1))) (.cons (.tup (.cons (.cst (.str [116, 104, 101, 110])) (.cons (.sub (.var 1) (.cst (.int 2))) (.cons (.var 2) .nil)))) .nil))))) .nil) .nil) (.cons (.ifs (.and (.cmp .eq (.var 0) (.cst (.str [101, 109, 112, 116, 121, 32, 97, 104, 101, 97, 100]))) (.cmp .eq (.var 1) (.glo 2))) (.cons (.ret (.var 2)) .nil) .nil) (.cons (.ifs (.and (.cmp .eq (.var 0) (.cst (.str [101, 109, 112, 116, 121, 32, 98, 101, 104, 105, 110, 100]))) (.cmp .eq (.var 2) (.glo 2))) (.cons (.ret (.var 1)) .nil) .nil) (.cons (.ifs (.or (.and (.cmp .eq (.var 0) (.cst (.str [110, 111, 110, 101, 32, 97, 104, 101, 97, 100]))) (.cmp .eq (.var 1) (.glo 1))) (.and (.cmp .eq (.var 0) (.cst (.str [110, 111, 110, 101, 32, 98, 101, 104, 105, 110, 100]))) (.cmp .eq (.var 2) (.glo 1)))) (.cons (.ret (.glo 1)) .nil) .nil) (.cons (.ifs (.and (.cmp .eq (.var 0) (.cst (.str [115, 112, 114, 101, 97, 100, 32, 97, 104, 101, 97, 100]))) (.cmp .eq (.sub (.var 2) (.cst (.int 0))) (.cst (.str [111, 114])))) (.cons (.ret (.tup (.cons (.cst (.str [111, 114])) (.cons (.tup (.cons (.cst (.str [116, 104, 101, 110])) (.cons (.var 1) (.cons (.sub (.var 2) (.cst (.int 1))) .nil)))) (.cons (.tup (.cons (.cst (.str [116, 104, 101, 110])) (.cons (.var 1) (.cons (.sub (.var 2) (.cst (.int 2))) .nil)))) .nil))))) .nil) .nil) (.cons (.ifs (.and (.cmp .eq (.var 0) (.cst (.str [115, 112, 114, 101, 97, 100, 32, 98, 101, 104, 105, 110, 100]))) (.cmp .eq (.sub (.var 1) (.cst (.int 0))) (.cst (.str [111, 114])))) (.cons (.ret (.tup (.cons (.cst (.str [111, 114])) (.cons (.tup (.cons (.cst (.str [116, 104, 101, 110])) (.cons (.sub (.var 1) (.cst (.int 1))) (.cons (.var 2) .nil)))) (.cons (.tup (.cons (.cst (.str [116, 104, 101, 110])) (.cons (.sub (.var 1) (.cst (.int 2))) (.cons (.var 2) .nil)))) .nil))))) .nil) .nil) (.cons (.ret (.cst .non)) .nil)))))))⟩
def f33_star_by : Def := ⟨2, 2, (.cons (.ifs (.cmp .eq (.var 0) (.cst (.str [117, 110, 114, 111, 108, 108, 101, 100]))) (.cons (.ret (.tup (.cons (.cst (.str [111, 114])) (.cons (.glo 2) (.cons (.tup (.cons (.cst (.str [116, 104, 101, 110])) (.cons (.var 1) (.cons (.tup (.cons (.cst (.str [115, 116, 97, 114])) (.cons (.var 1) .nil))) .nil)))) .nil))))) .nil) .nil) (.cons (.ifs (.and (.cmp .eq (.var 0) (.cst (.str [115, 107, 105, 112, 112, 101, 100]))) (.and (.cmp .eq (.sub (.var 1) (.cst (.int 0))) (.cst (.str [111, 114]))) (.cmp .eq (.sub (.var 1) (.cst (.int 1))) (.glo 2)))) (.cons (.ret (.tup (.cons (.cst (.str [115, 116, 97, 114])) (.cons (.sub (.var 1) (.cst (.int 2))) .nil)))) .nil) .nil) (.cons (.ret (.cst .non)) .nil)))⟩
def f448_is_right_rule : Def := ⟨3, 3, (.cons (.ifs (.not (.isi (.var 0) [.str])) (.cons (.ret (.cst (.bl false))) .nil) .nil) (.cons (.ifs (.cmp .eq (.var 0) (.cst (.str [103, 97, 116, 104, 101, 114, 101, 100]))) (.cons (.ret (.never)) .nil) .nil) (.cons (.ifs (.cmp .eq (.sub (.var 1) (.cst (.int 0))) (.cst (.str [116, 104, 101, 110]))) (.cons (.ret (.cmp .eq (.call 32 (.cons (.var 0) (.cons (.sub (.var 1) (.cst (.int 1))) (.cons (.sub (.var 1) (.cst (.int 2))) .nil)))) (.var 2))) .nil) .nil) (.cons (.ret (.and (.cmp .eq (.sub (.var 1) (.cst (.int 0))) (.cst (.str [115, 116, 97, 114]))) (.cmp .eq (.call 33 (.cons (.var 0) (.cons (.sub (.var 1) (.cst (.int 1))) .nil))) (.var 2)))) .nil))))⟩
def f53_are_numbers : Def := ⟨2, 3, (.cons (.ret (.blt .all (.cons (.comp (.call 50 (.cons (.var 2) (.cons (.var 1) .nil))) (.name 2) (.val (.var 0)) .no [2]) .nil))) .nil)⟩
def f57_by_told : Def := ⟨2, 2, (.cons (.ret (.ite (.call 50 (.cons (.var 0) (.cons (.blt .len (.cons (.var 1) .nil)) .nil))) (.tup (.cons (.sub (.var 1) (.var 0)) (.cons (.glo 1) .nil))) (.cst .non))) .nil)⟩
def f58_by_lines : Def := ⟨3, 6, (.cons (.ifs (.cmp .ne (.blt .len (.cons (.var 1) .nil)) (.dget (.disp [(.str [116, 117, 114, 110, 101, 100]), (.str [99, 104, 97, 105, 110, 101, 100]), (.str [111, 114]), (.str [116, 104, 101, 110]), (.str [115, 116, 97, 114])] (.cons (.cst (.int 1)) (.cons (.cst (.int 2)) (.cons (.cst (.int 2)) (.cons (.cst (.int 2)) (.cons (.cst (.int 1)) .nil)))))) (.var 0) (.neg (.cst (.int 1))))) (.cons (.ret (.cst .non)) .nil) .nil) (.cons (.ifs (.not (.call 53 (.cons (.var 1) (.cons (.blt .len (.cons (.var 2) .nil)) .nil)))) (.cons (.ret (.cst .non)) .nil) .nil) (.cons (.asg (.name 3) (.comp (.slc (.sub (.var 2) (.var 4)) .no (.yes (.cst (.int 2)))) (.name 4) (.val (.var 1)) .no [4])) (.cons (.ifs (.cmp .eq (.var 0) (.cst (.str [116, 117, 114, 110, 101, 100]))) (.cons (.ret (.tup (.cons (.sub (.sub (.var 3) (.cst (.int 0))) (.cst (.int 1))) (.cons (.sub (.sub (.var 3) (.cst (.int 0))) (.cst (.int 0))) .nil)))) .nil) .nil) (.cons (.ifs (.cmp .eq (.var 0) (.cst (.str [99, 104, 97, 105, 110, 101, 100]))) (.cons (.ret (.ite (.cmp .eq (.sub (.sub (.var 3) (.cst (.int 0))) (.cst (.int 1))) (.sub (.sub (.var 3) (.cst (.int 1))) (.cst (.int 0)))) (.tup (.cons (.sub (.sub (.var 3) (.cst (.int 0))) (.cst (.int 0))) (.cons (.sub (.sub (.var 3) (.cst (.int 1))) (.cst (.int 1))) .nil))) (.cst .non))) .nil) .nil) (.cons (.ret (.tup (.cons (.tup (.cons (.var 0) (.star (.comp (.sub (.var 5) (.cst (.int 0))) (.name 5) (.val (.var 3)) .no [5]) .nil))) (.cons (.tup (.cons (.var 0) (.star (.comp (.sub (.var 5) (.cst (.int 1))) (.name 5) (.val (.var 3)) .no [5]) .nil))) .nil)))) .nil))))))⟩
def f449_concluded : Def := ⟨3, 3, (.cons (.ifs (.or (.not (.isi (.var 0) [.tup])) (.or (.cmp .eq (.var 0) (.tup .nil)) (.not (.isi (.sub (.var 0) (.cst (.int 0))) [.str])))) (.cons (.ret (.cst .non)) .nil) .nil) (.cons (.ifs (.cmp .eq (.sub (.var 0) (.cst (.int 0))) (.cst (.str [112, 97, 105, 114, 115]))) (.cons (.ret (.ite (.cmp .eq (.blt .len (.cons (.var 0) .nil)) (.cst (.int 2))) (.never) (.cst .non))) .nil) .nil) (.cons (.ifs (.cmp .eq (.sub (.var 0) (.cst (.int 0))) (.cst (.str [116, 111, 108, 100]))) (.cons (.ret (.ite (.cmp .eq (.blt .len (.cons (.var 0) .nil)) (.cst (.int 2))) (.call 57 (.cons (.sub (.var 0) (.cst (.int 1))) (.cons (.var 2) .nil))) (.cst .non))) .nil) .nil) (.cons (.ret (.call 58 (.cons (.sub (.var 0) (.cst (.int 0))) (.cons (.slc (.var 0) (.yes (.cst (.int 1))) .no) (.cons (.var 1) .nil))))) .nil))))⟩
def f450_holds : Def := ⟨5, 5, (.cons (.ifs (.or (.not (.isi (.var 2) [.tup])) (.or (.cmp .eq (.var 2) (.tup .nil)) (.not (.isi (.sub (.var 2) (.cst (.int 0))) [.str])))) (.cons (.ret (.cst (.bl false))) .nil) .nil) (.cons (.ifs (.cmp .eq (.sub (.var 2) (.cst (.int 0))) (.cst (.str [114, 117, 108, 101]))) (.cons (.ret (.and (.cmp .eq (.blt .len (.cons (.var 2) .nil)) (.cst (.int 2))) (.call 448 (.cons (.sub (.var 2) (.cst (.int 1))) (.cons (.var 0) (.cons (.var 1) .nil)))))) .nil) .nil) (.cons (.ifs (.cmp .eq (.sub (.var 2) (.cst (.int 0))) (.cst (.str [115, 97, 109, 101]))) (.cons (.ret (.and (.cmp .eq (.blt .len (.cons (.var 2) .nil)) (.cst (.int 1))) (.cmp .eq (.var 0) (.var 1)))) .nil) .nil) (.cons (.ifs (.and (.cmp .eq (.sub (.var 2) (.cst (.int 0))) (.cst (.str [116, 111, 108, 100]))) (.isN (.var 4))) (.cons (.ret (.and (.cmp .eq (.blt .len (.cons (.var 2) .nil)) (.cst (.int 2))) (.and (.call 49 (.cons (.sub (.var 2) (.cst (.int 1))) .nil)) (.and (.cmp .ge (.sub (.var 2) (.cst (.int 1))) (.cst (.int 0))) (.cmp .eq (.var 1) (.glo 1)))))) .nil) .nil) (.cons (.ret (.cmp .eq (.call 449 (.cons (.var 2) (.cons (.var 3) (.cons (.var 4) .nil)))) (.tup (.cons (.var 0) (.cons (.var 1) .nil))))) .nil)))))⟩
def f451_are_lines : Def := ⟨2, 7, (.cons (.ifs (.or (.not (.isi (.var 0) [.lst])) (.cmp .eq (.var 0) (.lst .nil))) (.cons (.ret (.cst (.bl false))) .nil) .nil) (.cons (.asg (.name 2) (.newL .nil)) (.cons (.fors (.name 3) (.val (.var 0)) (.cons (.ifs (.or (.not (.isi (.var 3) [.tup])) (.cmp .ne (.blt .len (.cons (.var 3) .nil)) (.cst (.int 3)))) (.cons (.ret (.cst (.bl false))) .nil) .nil) (.cons (.asg (.tup [4, 5, 6]) (.var 3)) (.cons (.ifs (.or (.not (.call 2 (.cons (.var 4) .nil))) (.or (.not (.call 2 (.cons (.var 5) .nil))) (.not (.call 450 (.cons (.var 4) (.cons (.var 5) (.cons (.var 6) (.cons (.var 2) (.cons (.var 1) .nil))))))))) (.cons (.ret (.cst (.bl false))) .nil) .nil) (.cons (.exp (.mth .append (.var 2) (.cons (.var 3) .nil))) .nil))))) (.cons (.ret (.cst (.bl true))) .nil))))⟩
def f452_is_lines : Def := ⟨4, 4, (.cons (.exp (.call 3 (.cons (.var 1) .nil))) (.cons (.exp (.call 3 (.cons (.var 2) .nil))) (.cons (.exp (.call 51 (.cons (.var 3) .nil))) (.cons (.ret (.and (.call 451 (.cons (.var 0) (.cons (.var 3) .nil))) (.cmp .eq (.slc (.sub (.var 0) (.neg (.cst (.int 1)))) .no (.yes (.cst (.int 2)))) (.tup (.cons (.var 1) (.cons (.var 2) .nil)))))) .nil))))⟩
def f73_L_whole : Def := ⟨1, 1, (.cons (.ret (.and (.isi (.var 0) [.int]) (.not (.isi (.var 0) [.bool])))) .nil)⟩
def f44_L_side : Def := ⟨2, 4, (.cons (.ifs (.and (.cmp .eq (.var 0) (.cst (.str [117, 110, 114, 111, 108, 108, 101, 100]))) (.cmp .eq (.sub (.var 1) (.cst (.int 0))) (.cst (.str [115, 116, 97, 114])))) (.cons (.ret (.tup (.cons (.cst (.str [111, 114])) (.cons (.tup (.cons (.cst (.str [101, 109, 112, 116, 121])) .nil)) (.cons (.tup (.cons (.cst (.str [116, 104, 101, 110])) (.cons (.sub (.var 1) (.cst (.int 1))) (.cons (.var 1) .nil)))) .nil))))) .nil) .nil) (.cons (.ifs (.and (.cmp .eq (.var 0) (.cst (.str [115, 107, 105, 112, 112, 101, 100]))) (.and (.cmp .eq (.sub (.var 1) (.cst (.int 0))) (.cst (.str [115, 116, 97, 114]))) (.and (.cmp .eq (.sub (.sub (.var 1) (.cst (.int 1))) (.cst (.int 0))) (.cst (.str [111, 114]))) (.cmp .eq (.sub (.sub (.var 1) (.cst (.int 1))) (.cst (.int 1))) (.tup (.cons (.cst (.str [101, 109, 112, 116, 121])) .nil)))))) (.cons (.ret (.tup (.cons (.cst (.str [115, 116, 97, 114])) (.cons (.sub (.sub (.var 1) (.cst (.int 1))) (.cst (.int 2))) .nil)))) .nil) .nil) (.cons (.ifs (.cmp .ne (.sub (.var 1) (.cst (.int 0))) (.cst (.str [116, 104, 101, 110]))) (.cons (.ret (.cst .non)) .nil) .nil) (.cons (.par [2, 3] (.cons (.sub (.var 1) (.cst (.int 1))) (.cons (.sub (.var 1) (.cst (.int 2))) .nil))) (.cons (.ifs (.and (.cmp .eq (.var 0) (.cst (.str [103, 114, 111, 117, 112, 101, 100]))) (.cmp .eq (.sub (.var 2) (.cst (.int 0))) (.cst (.str [116, 104, 101, 110])))) (.cons (.ret (.tup (.cons (.cst (.str [116, 104, 101, 110])) (.cons (.sub (.var 2) (.cst (.int 1))) (.cons (.tup (.cons (.cst (.str [116, 104, 101, 110])) (.cons (.sub (.var 2) (.cst (.int 2))) (.cons (.var 3) .nil)))) .nil))))) .nil) .nil) (.cons (.ifs (.and (.cmp .eq (.var 0) (.cst (.str [101, 109, 112, 116, 121, 32, 97, 104, 101, 97, 100]))) (.cmp .eq (.var 2) (.tup (.cons (.cst (.str [101, 109, 112, 116, 121])) .nil)))) (.cons (.ret (.var 3)) .nil) .nil) (.cons (.ifs (.and (.cmp .eq (.var 0) (.cst (.str [101, 109, 112, 116, 121, 32, 98, 101, 104, 105, 110, 100]))) (.cmp .eq (.var 3) (.tup (.cons (.cst (.str [101, 109, 112, 116, 121])) .nil)))) (.cons (.ret (.var 2)) .nil) .nil) (.cons (.ifs (.or (.and (.cmp .eq (.var 0) (.cst (.str [110, 111, 110, 101, 32, 97, 104, 101, 97, 100]))) (.cmp .eq (.var 2) (.tup (.cons (.cst (.str [110, 111, 110, 101])) .nil)))) (.and (.cmp .eq (.var 0) (.cst (.str [110, 111, 110, 101, 32, 98, 101, 104, 105, 110, 100]))) (.cmp .eq (.var 3) (.tup (.cons (.cst (.str [110, 111, 110, 101])) .nil))))) (.cons (.ret (.tup (.cons (.cst (.str [110, 111, 110, 101])) .nil))) .nil) .nil) (.cons (.ifs (.and (.cmp .eq (.var 0) (.cst (.str [115, 112, 114, 101, 97, 100, 32, 97, 104, 101, 97, 100]))) (.cmp .eq (.sub (.var 3) (.cst (.int 0))) (.cst (.str [111, 114])))) (.cons (.ret (.tup (.cons (.cst (.str [111, 114])) (.cons (.tup (.cons (.cst (.str [116, 104, 101, 110])) (.cons (.var 2) (.cons (.sub (.var 3) (.cst (.int 1))) .nil)))) (.cons (.tup (.cons (.cst (.str [116, 104, 101, 110])) (.cons (.var 2) (.cons (.sub (.var 3) (.cst (.int 2))) .nil)))) .nil))))) .nil) .nil) (.cons (.ifs (.and (.cmp .eq (.var 0) (.cst (.str [115, 112, 114, 101, 97, 100, 32, 98, 101, 104, 105, 110, 100]))) (.cmp .eq (.sub (.var 2) (.cst (.int 0))) (.cst (.str [111, 114])))) (.cons (.ret (.tup (.cons (.cst (.str [111, 114])) (.cons (.tup (.cons (.cst (.str [116, 104, 101, 110])) (.cons (.sub (.var 2) (.cst (.int 1))) (.cons (.var 3) .nil)))) (.cons (.tup (.cons (.cst (.str [116, 104, 101, 110])) (.cons (.sub (.var 2) (.cst (.int 2))) (.cons (.var 3) .nil)))) .nil))))) .nil) .nil) (.cons (.ret (.cst .non)) .nil)))))))))))⟩
def f453_L_as_rule : Def := ⟨3, 6, (.cons (.ifs (.cmp .eq (.var 0) (.cst (.str [103, 97, 116, 104, 101, 114, 101, 100]))) (.cons (.par [3, 4] (.cons (.never) (.cons (.never) .nil))) (.cons (.ret (.and (.cmp .eq (.comp (.var 5) (.name 5) (.val (.var 3)) (.yes (.cmp .notin (.var 5) (.var 4))) [5]) (.lst .nil)) (.cmp .eq (.comp (.var 5) (.name 5) (.val (.var 4)) (.yes (.cmp .notin (.var 5) (.var 3))) [5]) (.lst .nil)))) .nil)) .nil) (.cons (.ret (.and (.isi (.var 0) [.str]) (.cmp .eq (.call 44 (.cons (.var 0) (.cons (.var 1) .nil))) (.var 2)))) .nil))⟩
def f104_L_numbers : Def := ⟨2, 3, (.cons (.ret (.cmp .eq (.comp (.var 2) (.name 2) (.val (.var 0)) (.yes (.or (.not (.call 73 (.cons (.var 2) .nil))) (.or (.cmp .lt (.var 2) (.cst (.int 0))) (.cmp .ge (.var 2) (.var 1))))) [2]) (.lst .nil))) .nil)⟩
def f454_L_holds : Def := ⟨5, 10, (.cons (.ifs (.or (.not (.isi (.var 2) [.tup])) (.or (.cmp .eq (.var 2) (.tup .nil)) (.not (.isi (.sub (.var 2) (.cst (.int 0))) [.str])))) (.cons (.ret (.cst (.bl false))) .nil) .nil) (.cons (.par [6, 7] (.cons (.sub (.var 2) (.cst (.int 0))) (.cons (.slc (.var 2) (.yes (.cst (.int 1))) .no) .nil))) (.cons (.ifs (.cmp .eq (.var 6) (.cst (.str [114, 117, 108, 101]))) (.cons (.ret (.and (.cmp .eq (.blt .len (.cons (.var 7) .nil)) (.cst (.int 1))) (.call 453 (.cons (.sub (.var 7) (.cst (.int 0))) (.cons (.var 0) (.cons (.var 1) .nil)))))) .nil) .nil) (.cons (.ifs (.cmp .eq (.var 6) (.cst (.str [115, 97, 109, 101]))) (.cons (.ret (.and (.cmp .eq (.var 7) (.tup .nil)) (.cmp .eq (.var 0) (.var 1)))) .nil) .nil) (.cons (.ifs (.cmp .eq (.var 6) (.cst (.str [112, 97, 105, 114, 115]))) (.cons (.ret (.and (.cmp .eq (.blt .len (.cons (.var 7) .nil)) (.cst (.int 1))) (.never))) .nil) .nil) (.cons (.ifs (.cmp .eq (.var 6) (.cst (.str [116, 111, 108, 100]))) (.cons (.ifs (.or (.cmp .ne (.blt .len (.cons (.var 7) .nil)) (.cst (.int 1))) (.not (.call 104 (.cons (.var 7) (.cons (.blt .len (.cons (.var 4) .nil)) .nil))))) (.cons (.ret (.cst (.bl false))) .nil) .nil) (.cons (.ret (.and (.cmp .eq (.sub (.var 4) (.sub (.var 7) (.cst (.int 0)))) (.var 0)) (.cmp .eq (.var 1) (.tup (.cons (.cst (.str [110, 111, 110, 101])) .nil))))) .nil)) .nil) (.cons (.ifs (.cmp .notin (.var 6) (.lst (.cons (.cst (.str [116, 117, 114, 110, 101, 100])) (.cons (.cst (.str [99, 104, 97, 105, 110, 101, 100])) (.cons (.cst (.str [111, 114])) (.cons (.cst (.str [116, 104, 101, 110])) (.cons (.cst (.str [115, 116, 97, 114])) .nil))))))) (.cons (.ret (.cst (.bl false))) .nil) .nil) (.cons (.ifs (.or (.cmp .ne (.blt .len (.cons (.var 7) .nil)) (.sub (.lst (.cons (.cst (.int 1)) (.cons (.cst (.int 2)) .nil))) (.blt .int (.cons (.cmp .isin (.var 6) (.lst (.cons (.cst (.str [99, 104, 97, 105, 110, 101, 100])) (.cons (.cst (.str [111, 114])) (.cons (.cst (.str [116, 104, 101, 110])) .nil))))) .nil)))) (.not (.call 104 (.cons (.var 7) (.cons (.blt .len (.cons (.var 3) .nil)) .nil))))) (.cons (.ret (.cst (.bl false))) .nil) .nil) (.cons (.asg (.name 5) (.comp (.tup (.cons (.sub (.sub (.var 3) (.var 8)) (.cst (.int 0))) (.cons (.sub (.sub (.var 3) (.var 8)) (.cst (.int 1))) .nil))) (.name 8) (.val (.var 7)) .no [8])) (.cons (.ifs (.cmp .eq (.var 6) (.cst (.str [116, 117, 114, 110, 101, 100]))) (.cons (.ret (.cmp .eq (.sub (.var 5) (.cst (.int 0))) (.tup (.cons (.var 1) (.cons (.var 0) .nil))))) .nil) .nil) (.cons (.ifs (.cmp .eq (.var 6) (.cst (.str [99, 104, 97, 105, 110, 101, 100]))) (.cons (.ret (.and (.cmp .eq (.sub (.sub (.var 5) (.cst (.int 0))) (.cst (.int 0))) (.var 0)) (.and (.cmp .eq (.sub (.sub (.var 5) (.cst (.int 0))) (.cst (.int 1))) (.sub (.sub (.var 5) (.cst (.int 1))) (.cst (.int 0)))) (.cmp .eq (.sub (.sub (.var 5) (.cst (.int 1))) (.cst (.int 1))) (.var 1))))) .nil) .nil) (.cons (.ifs (.cmp .ne (.bin .add (.tup (.cons (.var 6) .nil)) (.blt .tuple (.cons (.comp (.sub (.var 9) (.cst (.int 0))) (.name 9) (.val (.var 5)) .no [9]) .nil))) (.var 0)) (.cons (.ret (.cst (.bl false))) .nil) .nil) (.cons (.ret (.cmp .eq (.bin .add (.tup (.cons (.var 6) .nil)) (.blt .tuple (.cons (.comp (.sub (.var 9) (.cst (.int 1))) (.name 9) (.val (.var 5)) .no [9]) .nil))) (.var 1))) .nil)))))))))))))⟩
def f455_L_lines : Def := ⟨4, 6, (.cons (.ifs (.or (.not (.isi (.var 0) [.lst])) (.cmp .eq (.var 0) (.lst .nil))) (.cons (.ret (.cst (.bl false))) .nil) .nil) (.cons (.asg (.name 4) (.newL .nil)) (.cons (.fors (.name 5) (.val (.var 0)) (.cons (.ifs (.or (.not (.isi (.var 5) [.tup])) (.cmp .ne (.blt .len (.cons (.var 5) .nil)) (.cst (.int 3)))) (.cons (.ret (.cst (.bl false))) .nil) .nil) (.cons (.ifs (.or (.not (.call 22 (.cons (.sub (.var 5) (.cst (.int 0))) .nil))) (.not (.call 22 (.cons (.sub (.var 5) (.cst (.int 1))) .nil)))) (.cons (.ret (.cst (.bl false))) .nil) .nil) (.cons (.ifs (.not (.call 454 (.cons (.sub (.var 5) (.cst (.int 0))) (.cons (.sub (.var 5) (.cst (.int 1))) (.cons (.sub (.var 5) (.cst (.int 2))) (.cons (.var 4) (.cons (.var 3) .nil))))))) (.cons (.ret (.cst (.bl false))) .nil) .nil) (.cons (.exp (.mth .append (.var 4) (.cons (.var 5) .nil))) .nil))))) (.cons (.ret (.and (.cmp .eq (.sub (.sub (.var 4) (.neg (.cst (.int 1)))) (.cst (.int 0))) (.var 1)) (.cmp .eq (.sub (.sub (.var 4) (.neg (.cst (.int 1)))) (.cst (.int 1))) (.var 2)))) .nil))))⟩
def f107_L_odd_lots : Def := ⟨2, 16, (.cons (.asg (.name 2) (.tup (.cons (.cst (.str [101, 109, 112, 116, 121])) .nil))) (.cons (.par [6, 7] (.cons (.tup (.cons (.cst (.str [116, 104, 101, 110])) (.cons (.var 2) (.cons (.var 0) .nil)))) (.cons (.tup (.cons (.cst (.str [116, 104, 101, 110])) (.cons (.var 2) (.cons (.var 1) .nil)))) .nil))) (.cons (.asg (.name 3) (.lst (.cons (.tup (.cons (.var 6) (.cons (.var 0) (.cons (.tup (.cons (.cst (.str [114, 117, 108, 101])) (.cons (.cst (.str [101, 109, 112, 116, 121, 32, 97, 104, 101, 97, 100])) .nil))) .nil)))) (.cons (.tup (.cons (.var 7) (.cons (.var 1) (.cons (.tup (.cons (.cst (.str [114, 117, 108, 101])) (.cons (.cst (.str [101, 109, 112, 116, 121, 32, 97, 104, 101, 97, 100])) .nil))) .nil)))) (.cons (.tup (.cons (.var 0) (.cons (.var 6) (.cons (.tup (.cons (.cst (.str [116, 117, 114, 110, 101, 100])) (.cons (.cst (.int 0)) .nil))) .nil)))) .nil))))) (.cons (.asg (.name 4) (.newL (.cons (.tup (.cons (.var 0) (.cons (.var 7) (.cons (.tup (.cons (.cst (.str [116, 117, 114, 110, 101, 100])) (.cons (.cst (.int 0)) .nil))) .nil)))) (.cons (.tup (.cons (.var 1) (.cons (.var 6) (.cons (.tup (.cons (.cst (.str [116, 117, 114, 110, 101, 100])) (.cons (.cst (.int 0)) .nil))) .nil)))) (.cons (.tup (.cons (.var 6) (.cons (.var 0) (.cons (.tup (.cons (.cst (.str [116, 117, 114, 110, 101, 100])) (.cons (.cst (.int 0)) .nil))) .nil)))) (.cons (.tup (.cons (.var 7) (.cons (.var 6) (.cons (.tup (.cons (.cst (.str [99, 104, 97, 105, 110, 101, 100])) (.cons (.cst (.int 0)) (.cons (.cst (.int 2)) .nil)))) .nil)))) .nil)))))) (.cons (.asg (.name 4) (.newP (.var 4) (.lst (.cons (.tup (.cons (.var 6) (.cons (.var 7) (.cons (.tup (.cons (.cst (.str [99, 104, 97, 105, 110, 101, 100])) (.cons (.cst (.int 0)) (.cons (.cst (.int 2)) .nil)))) .nil)))) (.cons (.tup (.cons (.var 6) (.cons (.var 1) (.cons (.tup (.cons (.cst (.str [99, 104, 97, 105, 110, 101, 100])) (.cons (.cst (.int 0)) (.cons (.cst (.int 1)) .nil)))) .nil)))) (.cons (.tup (.cons (.tup (.cons (.cst (.str [115, 116, 97, 114])) (.cons (.var 7) .nil))) (.cons (.tup (.cons (.cst (.str [115, 116, 97, 114])) (.cons (.var 0) .nil))) (.cons (.tup (.cons (.cst (.str [115, 116, 97, 114])) (.cons (.cst (.int 0)) .nil))) .nil)))) .nil)))))) (.cons (.exp (.mth .append (.var 4) (.cons (.tup (.cons (.tup (.cons (.cst (.str [115, 116, 97, 114])) (.cons (.var 6) .nil))) (.cons (.tup (.cons (.cst (.str [115, 116, 97, 114])) (.cons (.var 1) .nil))) (.cons (.tup (.cons (.cst (.str [115, 116, 97, 114])) (.cons (.cst (.int 0)) .nil))) .nil)))) .nil))) (.cons (.fors (.tup [8, 9]) (.val (.lst (.cons (.tup (.cons (.cst (.str [111, 114])) (.cons (.cst (.str [116, 104, 101, 110])) .nil))) (.cons (.tup (.cons (.cst (.str [116, 104, 101, 110])) (.cons (.cst (.str [111, 114])) .nil))) .nil)))) (.cons (.par [11, 12] (.cons (.tup (.cons (.var 8) (.cons (.var 6) (.cons (.var 7) .nil)))) (.cons (.tup (.cons (.var 8) (.cons (.var 0) (.cons (.var 1) .nil)))) .nil))) (.cons (.asg (.name 10) (.lst (.cons (.tup (.cons (.tup (.cons (.var 8) (.cons (.var 0) (.cons (.var 7) .nil)))) (.cons (.var 12) .nil))) (.cons (.tup (.cons (.tup (.cons (.var 8) (.cons (.var 6) (.cons (.var 1) .nil)))) (.cons (.var 12) .nil))) (.cons (.tup (.cons (.var 11) (.cons (.tup (.cons (.var 8) (.cons (.var 1) (.cons (.var 1) .nil)))) .nil))) (.cons (.tup (.cons (.var 11) (.cons (.tup (.cons (.var 8) (.cons (.var 0) (.cons (.var 0) .nil)))) .nil))) .nil)))))) (.cons (.asg (.name 10) (.bin .add (.var 10) (.lst (.cons (.tup (.cons (.tup (.cons (.var 8) (.cons (.var 7) (.cons (.var 6) .nil)))) (.cons (.var 12) .nil))) (.cons (.tup (.cons (.var 11) (.cons (.tup (.cons (.var 8) (.cons (.var 1) (.cons (.var 0) .nil)))) .nil))) (.cons (.tup (.cons (.tup (.cons (.var 9) (.cons (.var 6) (.cons (.var 7) .nil)))) (.cons (.var 12) .nil))) (.cons (.tup (.cons (.var 11) (.cons (.tup (.cons (.var 9) (.cons (.var 0) (.cons (.var 1) .nil)))) .nil))) .nil))))))) (.cons (.asg (.name 4) (.newP (.var 4) (.comp (.tup (.cons (.var 14) (.cons (.var 15) (.cons (.tup (.cons (.var 8) (.cons (.cst (.int 0)) (.cons (.cst (.int 1)) .nil)))) .nil)))) (.tup [14, 15]) (.val (.var 10)) .no [14, 15]))) .nil))))) (.cons (.asg (.name 5) (.comp (.bin .add (.var 3) (.lst (.cons (.var 13) (.cons (.tup (.cons (.var 0) (.cons (.var 0) (.cons (.tup (.cons (.cst (.str [115, 97, 109, 101])) .nil)) .nil)))) .nil)))) (.name 13) (.val (.var 4)) .no [13])) (.cons (.ret (.bin .add (.var 5) (.lst (.cons (.lst (.cons (.tup (.cons (.var 0) (.cons (.var 0) (.cons (.lst (.cons (.cst (.str [115, 97, 109, 101])) .nil)) .nil)))) .nil)) (.cons (.lst (.cons (.lst (.cons (.var 0) (.cons (.var 0) (.cons (.tup (.cons (.cst (.str [115, 97, 109, 101])) .nil)) .nil)))) .nil)) (.cons (.bin .add (.var 3) (.lst (.cons (.tup (.cons (.var 6) (.cons (.var 6) (.cons (.tup (.cons (.cst (.str [99, 104, 97, 105, 110, 101, 100])) (.cons (.cst (.int 0)) (.cons (.cst (.int 2)) (.cons (.cst (.int 0)) .nil))))) .nil)))) (.cons (.tup (.cons (.var 0) (.cons (.var 0) (.cons (.tup (.cons (.cst (.str [115, 97, 109, 101])) .nil)) .nil)))) .nil)))) .nil)))))) .nil)))))))))⟩
def f456_L_good : Def := ⟨4, 7, (.cons (.asg (.name 4) (.blt .repr (.cons (.lst (.cons (.var 0) (.cons (.var 3) .nil))) .nil))) (.cons (.asg (.name 5) (.call 452 (.cons (.var 0) (.cons (.var 1) (.cons (.var 2) (.cons (.var 3) .nil)))))) (.cons (.asg (.name 6) (.call 455 (.cons (.var 0) (.cons (.var 1) (.cons (.var 2) (.cons (.var 3) .nil)))))) (.cons (.ret (.and (.isi (.var 5) [.bool]) (.and (.cmp .eq (.var 5) (.var 6)) (.cmp .eq (.blt .repr (.cons (.lst (.cons (.var 0) (.cons (.var 3) .nil))) .nil)) (.var 4))))) .nil))))⟩
def f109_L_right_lots : Def := ⟨2, 8, (.cons (.asg (.name 2) (.tup (.cons (.cst (.str [101, 109, 112, 116, 121])) .nil))) (.cons (.par [5, 6] (.cons (.tup (.cons (.cst (.str [116, 104, 101, 110])) (.cons (.var 2) (.cons (.var 0) .nil)))) (.cons (.tup (.cons (.cst (.str [116, 104, 101, 110])) (.cons (.var 2) (.cons (.var 1) .nil)))) .nil))) (.cons (.asg (.name 3) (.lst (.cons (.tup (.cons (.var 5) (.cons (.var 0) (.cons (.tup (.cons (.cst (.str [114, 117, 108, 101])) (.cons (.cst (.str [101, 109, 112, 116, 121, 32, 97, 104, 101, 97, 100])) .nil))) .nil)))) (.cons (.tup (.cons (.var 6) (.cons (.var 1) (.cons (.tup (.cons (.cst (.str [114, 117, 108, 101])) (.cons (.cst (.str [101, 109, 112, 116, 121, 32, 97, 104, 101, 97, 100])) .nil))) .nil)))) (.cons (.tup (.cons (.var 0) (.cons (.var 5) (.cons (.tup (.cons (.cst (.str [116, 117, 114, 110, 101, 100])) (.cons (.cst (.int 0)) .nil))) .nil)))) .nil))))) (.cons (.asg (.name 4) (.lst (.cons (.tup (.cons (.var 5) (.cons (.var 5) (.cons (.tup (.cons (.cst (.str [99, 104, 97, 105, 110, 101, 100])) (.cons (.cst (.int 0)) (.cons (.cst (.int 2)) .nil)))) .nil)))) (.cons (.tup (.cons (.var 0) (.cons (.var 0) (.cons (.tup (.cons (.cst (.str [99, 104, 97, 105, 110, 101, 100])) (.cons (.cst (.int 2)) (.cons (.cst (.int 0)) .nil)))) .nil)))) (.cons (.tup (.cons (.tup (.cons (.cst (.str [115, 116, 97, 114])) (.cons (.var 5) .nil))) (.cons (.tup (.cons (.cst (.str [115, 116, 97, 114])) (.cons (.var 0) .nil))) (.cons (.tup (.cons (.cst (.str [115, 116, 97, 114])) (.cons (.cst (.int 0)) .nil))) .nil)))) .nil))))) (.cons (.asg (.name 4) (.bin .add (.var 4) (.lst (.cons (.tup (.cons (.tup (.cons (.cst (.str [111, 114])) (.cons (.var 5) (.cons (.var 6) .nil)))) (.cons (.tup (.cons (.cst (.str [111, 114])) (.cons (.var 0) (.cons (.var 1) .nil)))) (.cons (.tup (.cons (.cst (.str [111, 114])) (.cons (.cst (.int 0)) (.cons (.cst (.int 1)) .nil)))) .nil)))) (.cons (.tup (.cons (.tup (.cons (.cst (.str [116, 104, 101, 110])) (.cons (.var 6) (.cons (.var 5) .nil)))) (.cons (.tup (.cons (.cst (.str [116, 104, 101, 110])) (.cons (.var 1) (.cons (.var 0) .nil)))) (.cons (.tup (.cons (.cst (.str [116, 104, 101, 110])) (.cons (.cst (.int 1)) (.cons (.cst (.int 0)) .nil)))) .nil)))) .nil))))) (.cons (.ret (.comp (.bin .add (.var 3) (.lst (.cons (.var 7) .nil))) (.name 7) (.val (.bin .add (.var 4) (.lst (.cons (.tup (.cons (.tup (.cons (.cst (.str [111, 114])) (.cons (.var 0) (.cons (.var 0) .nil)))) (.cons (.tup (.cons (.cst (.str [111, 114])) (.cons (.var 5) (.cons (.var 5) .nil)))) (.cons (.tup (.cons (.cst (.str [111, 114])) (.cons (.cst (.int 2)) (.cons (.cst (.int 2)) .nil)))) .nil)))) (.cons (.tup (.cons (.var 1) (.cons (.var 6) (.cons (.tup (.cons (.cst (.str [116, 117, 114, 110, 101, 100])) (.cons (.cst (.int 1)) .nil))) .nil)))) .nil))))) .no [7])) .nil))))))⟩
def f457_L_told_good : Def := ⟨2, 6, (.cons (.asg (.name 2) (.tup (.cons (.cst (.str [110, 111, 110, 101])) .nil))) (.cons (.asg (.name 3) (.lst (.cons (.tup (.cons (.cst (.int 0)) (.cons (.lst (.cons (.var 1) .nil)) .nil))) (.cons (.tup (.cons (.cst (.int 0)) (.cons (.lst .nil) .nil))) (.cons (.tup (.cons (.cst (.bl false)) (.cons (.lst (.cons (.var 0) .nil)) .nil))) (.cons (.tup (.cons (.cst (.int 1)) (.cons (.lst (.cons (.var 1) (.cons (.var 0) .nil))) .nil))) (.cons (.tup (.cons (.cst (.int 1)) (.cons (.lst (.cons (.var 0) .nil)) .nil))) (.cons (.tup (.cons (.cst (.int 0)) (.cons (.lst (.cons (.var 0) (.cons (.var 1) .nil))) .nil))) (.cons (.tup (.cons (.neg (.cst (.int 1))) (.cons (.lst (.cons (.var 0) .nil)) .nil))) (.cons (.tup (.cons (.cst (.int 0)) (.cons (.tup (.cons (.var 0) .nil)) .nil))) (.cons (.tup (.cons (.cst (.bl true)) (.cons (.lst (.cons (.var 1) (.cons (.var 0) .nil))) .nil))) .nil))))))))))) (.cons (.fors (.tup [4, 5]) (.val (.bin .add (.var 3) (.lst (.cons (.tup (.cons (.cst (.int 0)) (.cons (.tup (.cons (.var 1) (.cons (.var 0) .nil))) .nil))) (.cons (.tup (.cons (.cst (.str [48])) (.cons (.lst (.cons (.var 0) .nil)) .nil))) (.cons (.tup (.cons (.cst .non) (.cons (.lst (.cons (.var 0) .nil)) .nil))) .nil)))))) (.cons (.ifs (.not (.call 456 (.cons (.lst (.cons (.tup (.cons (.var 0) (.cons (.var 2) (.cons (.tup (.cons (.cst (.str [116, 111, 108, 100])) (.cons (.var 4) .nil))) .nil)))) .nil)) (.cons (.var 0) (.cons (.var 2) (.cons (.var 5) .nil)))))) (.cons (.ret (.cst (.bl false))) .nil) .nil) (.cons (.ifs (.not (.call 456 (.cons (.lst (.cons (.tup (.cons (.var 0) (.cons (.var 0) (.cons (.tup (.cons (.cst (.str [115, 97, 109, 101])) .nil)) .nil)))) (.cons (.tup (.cons (.var 2) (.cons (.var 0) (.cons (.tup (.cons (.cst (.str [116, 111, 108, 100])) (.cons (.var 4) .nil))) .nil)))) .nil))) (.cons (.var 2) (.cons (.var 0) (.cons (.var 5) .nil)))))) (.cons (.ret (.cst (.bl false))) .nil) .nil) .nil))) (.cons (.ret (.cst (.bl true))) .nil))))⟩
def f0_k13 : Def := ⟨1, 9, (.cons (.fors (.name 1) (.range1 (.blt .max (.cons (.cst (.int 2)) (.cons (.blt .min (.cons (.blt .len (.cons (.var 0) .nil)) (.cons (.cst (.int 5)) .nil))) .nil)))) (.cons (.asg (.name 3) (.call 12 (.cons (.var 0) (.cons (.var 1) .nil)))) (.cons (.asg (.name 4) (.call 14 (.cons (.var 3) .nil))) (.cons (.par [6, 7] (.cons (.call 17 (.cons (.var 3) (.cons (.var 4) (.cons (.cst (.int 2)) .nil)))) (.cons (.call 17 (.cons (.var 3) (.cons (.var 4) (.cons (.cst (.int 2)) .nil)))) .nil))) (.cons (.ifs (.cmp .eq (.var 6) (.var 7)) (.cons (.asg (.name 7) (.tup (.cons (.cst (.str [115, 116, 97, 114])) (.cons (.var 7) .nil)))) .nil) .nil) (.cons (.fors (.name 5) (.val (.call 107 (.cons (.var 6) (.cons (.var 7) .nil)))) (.cons (.ifs (.not (.call 456 (.cons (.var 5) (.cons (.var 6) (.cons (.var 6) (.cons (.tup .nil) .nil)))))) (.cons (.ret (.cst (.bl false))) .nil) .nil) .nil)) (.cons (.fors (.name 5) (.val (.call 109 (.cons (.var 6) (.cons (.var 7) .nil)))) (.cons (.par [2, 8] (.cons (.sub (.sub (.var 5) (.neg (.cst (.int 1)))) (.cst (.int 0))) (.cons (.sub (.sub (.var 5) (.neg (.cst (.int 1)))) (.cst (.int 1))) .nil))) (.cons (.ifs (.or (.not (.call 456 (.cons (.var 5) (.cons (.var 2) (.cons (.var 8) (.cons (.tup .nil) .nil)))))) (.notB true (.callD 452 (.cons (.var 5) (.cons (.var 2) (.cons (.var 8) .nil)))))) (.cons (.ret (.cst (.bl false))) .nil) .nil) (.cons (.ifs (.and (.cmp .ne (.var 2) (.var 8)) (.notB false (.callD 452 (.cons (.var 5) (.cons (.var 8) (.cons (.var 2) .nil)))))) (.cons (.ret (.cst (.bl false))) .nil) .nil) .nil)))) (.cons (.ifs (.not (.call 457 (.cons (.var 6) (.cons (.var 7) .nil)))) (.cons (.ret (.cst (.bl false))) .nil) .nil) .nil)))))))) (.cons (.asg (.name 2) (.tup (.cons (.cst (.str [115, 105, 103, 110])) (.cons (.cst (.str [97])) .nil)))) (.cons (.ret (.cmp .eq (.comp (.var 5) (.name 5) (.val (.call 107 (.cons (.var 2) (.cons (.tup (.cons (.cst (.str [115, 105, 103, 110])) (.cons (.cst (.str [98])) .nil))) .nil)))) (.yes (.callD 452 (.cons (.var 5) (.cons (.var 2) (.cons (.var 2) .nil))))) [5]) (.lst .nil))) .nil)))⟩
end SL
set_option Elab.async false
set_option linter.all false
set_option maxRecDepth 100000
set_option maxHeartbeats 0
namespace SL
def f340_written : Def := ⟨1, 1, (.cons (.ifs (.cmp .isin (.var 0) (.tup (.cons (.glo 1) (.cons (.glo 2) .nil)))) (.cons (.ret (.ite (.cmp .eq (.var 0) (.glo 1)) (.cst (.str [48])) (.cst (.str [49])))) .nil) .nil) (.cons (.ifs (.cmp .eq (.sub (.var 0) (.cst (.int 0))) (.cst (.str [115, 105, 103, 110]))) (.cons (.ret (.sub (.var 0) (.cst (.int 1)))) .nil) .nil) (.cons (.ifs (.cmp .eq (.sub (.var 0) (.cst (.int 0))) (.cst (.str [115, 116, 97, 114]))) (.cons (.ret (.bin .add (.call 341 (.cons (.sub (.var 0) (.cst (.int 1))) (.cons (.tup (.cons (.cst (.str [111, 114])) (.cons (.cst (.str [116, 104, 101, 110])) .nil))) .nil))) (.cst (.str [42])))) .nil) .nil) (.cons (.ifs (.cmp .eq (.sub (.var 0) (.cst (.int 0))) (.cst (.str [116, 104, 101, 110]))) (.cons (.ret (.bin .add (.call 341 (.cons (.sub (.var 0) (.cst (.int 1))) (.cons (.tup (.cons (.cst (.str [111, 114])) .nil)) .nil))) (.call 341 (.cons (.sub (.var 0) (.cst (.int 2))) (.cons (.tup (.cons (.cst (.str [111, 114])) (.cons (.cst (.str [116, 104, 101, 110])) .nil))) .nil))))) .nil) .nil) (.cons (.ret (.bin .add (.bin .add (.call 340 (.cons (.sub (.var 0) (.cst (.int 1))) .nil)) (.cst (.str [124]))) (.call 341 (.cons (.sub (.var 0) (.cst (.int 2))) (.cons (.tup (.cons (.cst (.str [111, 114])) .nil)) .nil))))) .nil)))))⟩
def f341_within_brackets : Def := ⟨2, 2, (.cons (.ret (.ite (.cmp .isin (.sub (.var 0) (.cst (.int 0))) (.var 1)) (.bin .add (.bin .add (.cst (.str [40])) (.call 340 (.cons (.var 0) .nil))) (.cst (.str [41]))) (.call 340 (.cons (.var 0) .nil)))) .nil)⟩
def f342_pattern_text : Def := ⟨1, 1, (.cons (.exp (.call 3 (.cons (.var 0) .nil))) (.cons (.ret (.call 340 (.cons (.var 0) .nil))) .nil))⟩
def f343_inner_read : Def := ⟨2, 3, (.cons (.asg (.name 2) (.call 346 (.cons (.var 0) (.cons (.bin .add (.var 1) (.cst (.int 1))) .nil)))) (.cons (.ifs (.or (.isN (.var 2)) (.cmp .ne (.slc (.var 0) (.yes (.sub (.var 2) (.cst (.int 1)))) (.yes (.bin .add (.sub (.var 2) (.cst (.int 1))) (.cst (.int 1))))) (.cst (.str [41])))) (.cons (.ret (.cst .non)) .nil) .nil) (.cons (.ret (.tup (.cons (.sub (.var 2) (.cst (.int 0))) (.cons (.bin .add (.sub (.var 2) (.cst (.int 1))) (.cst (.int 1))) .nil)))) .nil)))⟩
def f344_atom_read : Def := ⟨2, 5, (.cons (.asg (.name 2) (.slc (.var 0) (.yes (.var 1)) (.yes (.bin .add (.var 1) (.cst (.int 1)))))) (.cons (.ifs (.cmp .eq (.var 2) (.cst (.str [40]))) (.cons (.asg (.name 3) (.call 343 (.cons (.var 0) (.cons (.var 1) .nil)))) (.cons (.ifs (.isN (.var 3)) (.cons (.ret (.cst .non)) .nil) .nil) (.cons (.asg (.tup [4, 1]) (.var 3)) .nil))) (.cons (.ifs (.and (.cmp .ne (.var 2) (.cst (.str []))) (.cmp .isin (.var 2) (.bin .add (.glo 0) (.cst (.str [48, 49]))))) (.cons (.par [4, 1] (.cons (.dget (.disp [(.str [48]), (.str [49])] (.cons (.glo 1) (.cons (.glo 2) .nil))) (.var 2) (.tup (.cons (.cst (.str [115, 105, 103, 110])) (.cons (.var 2) .nil)))) (.cons (.bin .add (.var 1) (.cst (.int 1))) .nil))) .nil) (.cons (.ret (.cst .non)) .nil)) .nil)) (.cons (.whl (.cmp .eq (.slc (.var 0) (.yes (.var 1)) (.yes (.bin .add (.var 1) (.cst (.int 1))))) (.cst (.str [42]))) (.cons (.par [4, 1] (.cons (.tup (.cons (.cst (.str [115, 116, 97, 114])) (.cons (.var 4) .nil))) (.cons (.bin .add (.var 1) (.cst (.int 1))) .nil))) .nil)) (.cons (.ret (.tup (.cons (.var 4) (.cons (.var 1) .nil)))) .nil))))⟩
def f345_row_read : Def := ⟨2, 4, (.cons (.asg (.name 2) (.call 344 (.cons (.var 0) (.cons (.var 1) .nil)))) (.cons (.whl (.and (.notN (.var 2)) (.cmp .notin (.slc (.var 0) (.yes (.sub (.var 2) (.cst (.int 1)))) (.yes (.bin .add (.sub (.var 2) (.cst (.int 1))) (.cst (.int 1))))) (.tup (.cons (.cst (.str [])) (.cons (.cst (.str [124])) (.cons (.cst (.str [41])) .nil)))))) (.cons (.asg (.name 3) (.call 344 (.cons (.var 0) (.cons (.sub (.var 2) (.cst (.int 1))) .nil)))) (.cons (.ifs (.isN (.var 3)) (.cons (.ret (.cst .non)) .nil) .nil) (.cons (.asg (.name 2) (.tup (.cons (.tup (.cons (.cst (.str [116, 104, 101, 110])) (.cons (.sub (.var 2) (.cst (.int 0))) (.cons (.sub (.var 3) (.cst (.int 0))) .nil)))) (.cons (.sub (.var 3) (.cst (.int 1))) .nil)))) .nil)))) (.cons (.ret (.var 2)) .nil)))⟩
def f346_either_read : Def := ⟨2, 4, (.cons (.asg (.name 2) (.call 345 (.cons (.var 0) (.cons (.var 1) .nil)))) (.cons (.whl (.and (.notN (.var 2)) (.cmp .eq (.slc (.var 0) (.yes (.sub (.var 2) (.cst (.int 1)))) (.yes (.bin .add (.sub (.var 2) (.cst (.int 1))) (.cst (.int 1))))) (.cst (.str [124])))) (.cons (.asg (.name 3) (.call 345 (.cons (.var 0) (.cons (.bin .add (.sub (.var 2) (.cst (.int 1))) (.cst (.int 1))) .nil)))) (.cons (.ifs (.isN (.var 3)) (.cons (.ret (.cst .non)) .nil) .nil) (.cons (.asg (.name 2) (.tup (.cons (.tup (.cons (.cst (.str [111, 114])) (.cons (.sub (.var 2) (.cst (.int 0))) (.cons (.sub (.var 3) (.cst (.int 0))) .nil)))) (.cons (.sub (.var 3) (.cst (.int 1))) .nil)))) .nil)))) (.cons (.ret (.var 2)) .nil)))⟩
def f347_pattern_read : Def := ⟨1, 2, (.cons (.asg (.name 1) (.call 346 (.cons (.var 0) (.cons (.cst (.int 0)) .nil)))) (.cons (.ifs (.or (.isN (.var 1)) (.or (.cmp .ne (.sub (.var 1) (.cst (.int 1))) (.blt .len (.cons (.var 0) .nil))) (.cmp .ne (.call 340 (.cons (.sub (.var 1) (.cst (.int 0))) .nil)) (.var 0)))) (.cons (.ret (.cst .non)) .nil) .nil) (.cons (.ret (.sub (.var 1) (.cst (.int 0)))) .nil)))⟩
def f348_read_pattern : Def := ⟨1, 2, (.cons (.asg (.name 1) (.call 347 (.cons (.var 0) .nil))) (.cons (.ifs (.isN (.var 1)) (.cons (.raise 14 (.cons (.cst (.int 1)) .nil)) .nil) .nil) (.cons (.ret (.var 1)) .nil)))⟩
def f216_L_kinds : Def := ⟨1, 5, (.cons (.asg (.name 1) (.newL (.cons (.isi (.var 0) [(.own 1)]) (.cons (.isi (.var 0) [(.own 2)]) (.cons (.isi (.var 0) [(.own 3)]) .nil))))) (.cons (.asg (.name 1) (.newP (.var 1) (.lst (.cons (.isi (.var 0) [(.own 4)]) (.cons (.isi (.var 0) [(.own 5)]) (.cons (.isi (.var 0) [(.own 6)]) .nil)))))) (.cons (.asg (.name 1) (.newP (.var 1) (.lst (.cons (.isi (.var 0) [(.own 7)]) (.cons (.isi (.var 0) [(.own 8)]) (.cons (.isi (.var 0) [(.own 9)]) .nil)))))) (.cons (.asg (.name 1) (.newP (.var 1) (.lst (.cons (.isi (.var 0) [(.own 10)]) (.cons (.isi (.var 0) [(.own 11)]) (.cons (.isi (.var 0) [(.own 12)]) .nil)))))) (.cons (.asg (.name 1) (.newP (.var 1) (.lst (.cons (.isi (.var 0) [(.own 13)]) (.cons (.isi (.var 0) [(.own 14)]) (.cons (.isi (.var 0) [.ve]) .nil)))))) (.cons (.exp (.mth .append (.var 1) (.cons (.isi (.var 0) [(.own 0)]) .nil))) (.cons (.asg (.name 2) (.lst (.cons (.cst (.str [112, 97, 116, 116, 101, 114, 110])) (.cons (.cst (.str [119, 111, 114, 100])) (.cons (.cst (.str [108, 101, 110, 103, 116, 104])) (.cons (.cst (.str [116, 111, 108, 100])) (.cons (.cst (.str [115, 105, 103, 110, 115])) (.cons (.cst (.str [108, 105, 110, 101, 115])) (.cons (.cst (.str [108, 105, 110, 101])) (.cons (.cst (.str [110, 117, 109, 98, 101, 114])) (.cons (.cst (.str [117, 110, 108, 105, 107, 101])) (.cons (.cst (.str [114, 111, 119, 115])) (.cons (.cst (.str [109, 97, 110, 121])) (.cons (.cst (.str [111, 110, 101])) .nil)))))))))))))) (.cons (.asg (.name 2) (.bin .add (.var 2) (.lst (.cons (.cst (.str [112, 97, 114, 116, 101, 100])) (.cons (.cst (.str [116, 101, 120, 116])) (.cons (.cst (.str [118, 97, 108, 117, 101])) (.cons (.cst (.str [101, 114, 114, 111, 114])) .nil))))))) (.cons (.ret (.comp (.var 3) (.tup [3, 4]) (.zip (.var 2) (.var 1)) (.yes (.var 4)) [3, 4])) .nil)))))))))⟩
def f217_L_word : Def := ⟨1, 2, (.cons (.asg (.name 1) (.call 216 (.cons (.var 0) .nil))) (.cons (.ifs (.cmp .eq (.var 1) (.lst .nil)) (.cons (.ret (.cst (.str []))) .nil) .nil) (.cons (.ret (.sub (.lst (.cons (.sub (.var 1) (.cst (.int 0))) (.cons (.cst (.str [111, 116, 104, 101, 114])) .nil))) (.blt .int (.cons (.cmp .ne (.slc (.var 1) (.yes (.cst (.int 1))) .no) (.lst (.cons (.cst (.str [118, 97, 108, 117, 101])) (.cons (.cst (.str [101, 114, 114, 111, 114])) .nil)))) .nil)))) .nil)))⟩
def f349_L_text : Def := ⟨1, 2, (.cons (.asg (.name 1) (.sub (.var 0) (.cst (.int 0)))) (.cons (.ifs (.cmp .eq (.var 1) (.cst (.str [110, 111, 110, 101]))) (.cons (.ret (.cst (.str [48]))) .nil) .nil) (.cons (.ifs (.cmp .eq (.var 1) (.cst (.str [101, 109, 112, 116, 121]))) (.cons (.ret (.cst (.str [49]))) .nil) .nil) (.cons (.ifs (.cmp .eq (.var 1) (.cst (.str [115, 105, 103, 110]))) (.cons (.ret (.sub (.var 0) (.cst (.int 1)))) .nil) .nil) (.cons (.ifs (.cmp .eq (.var 1) (.cst (.str [115, 116, 97, 114]))) (.cons (.ret (.bin .add (.call 350 (.cons (.sub (.var 0) (.cst (.int 1))) (.cons (.lst (.cons (.cst (.str [111, 114])) (.cons (.cst (.str [116, 104, 101, 110])) .nil))) .nil))) (.cst (.str [42])))) .nil) .nil) (.cons (.ifs (.cmp .eq (.var 1) (.cst (.str [116, 104, 101, 110]))) (.cons (.ret (.bin .add (.call 350 (.cons (.sub (.var 0) (.cst (.int 1))) (.cons (.lst (.cons (.cst (.str [111, 114])) .nil)) .nil))) (.call 350 (.cons (.sub (.var 0) (.cst (.int 2))) (.cons (.lst (.cons (.cst (.str [111, 114])) (.cons (.cst (.str [116, 104, 101, 110])) .nil))) .nil))))) .nil) .nil) (.cons (.ret (.bin .add (.bin .add (.call 349 (.cons (.sub (.var 0) (.cst (.int 1))) .nil)) (.cst (.str [124]))) (.call 350 (.cons (.sub (.var 0) (.cst (.int 2))) (.cons (.lst (.cons (.cst (.str [111, 114])) .nil)) .nil))))) .nil)))))))⟩
def f350_L_in_brackets : Def := ⟨2, 2, (.cons (.ifs (.cmp .isin (.sub (.var 0) (.cst (.int 0))) (.var 1)) (.cons (.ret (.bin .add (.bin .add (.cst (.str [40])) (.call 349 (.cons (.var 0) .nil))) (.cst (.str [41])))) .nil) .nil) (.cons (.ret (.call 349 (.cons (.var 0) .nil))) .nil))⟩
def f351_L_cut : Def := ⟨2, 7, (.cons (.asg (.name 2) (.newL .nil)) (.cons (.asg (.name 3) (.cst (.int 0))) (.cons (.asg (.name 4) (.cst (.int 0))) (.cons (.fors (.name 5) (.range1 (.blt .len (.cons (.var 0) .nil))) (.cons (.asg (.name 3) (.bin .sub (.bin .add (.var 3) (.blt .int (.cons (.cmp .eq (.sub (.var 0) (.var 5)) (.cst (.str [40]))) .nil))) (.blt .int (.cons (.cmp .eq (.sub (.var 0) (.var 5)) (.cst (.str [41]))) .nil)))) (.cons (.ifs (.cmp .lt (.var 3) (.cst (.int 0))) (.cons (.ret (.cst .non)) .nil) .nil) (.cons (.ifs (.and (.cmp .eq (.var 1) (.cst (.str [124]))) (.and (.cmp .eq (.sub (.var 0) (.var 5)) (.cst (.str [124]))) (.cmp .eq (.var 3) (.cst (.int 0))))) (.cons (.exp (.mth .append (.var 2) (.cons (.slc (.var 0) (.yes (.var 4)) (.yes (.var 5))) .nil))) (.cons (.asg (.name 4) (.bin .add (.var 5) (.cst (.int 1)))) .nil)) .nil) (.cons (.asg (.name 6) (.slc (.var 0) (.yes (.bin .add (.var 5) (.cst (.int 1)))) (.yes (.bin .add (.var 5) (.cst (.int 2)))))) (.cons (.ifs (.and (.cmp .eq (.var 1) (.cst (.str []))) (.and (.cmp .eq (.var 3) (.cst (.int 0))) (.cmp .notin (.var 6) (.lst (.cons (.cst (.str [])) (.cons (.cst (.str [42])) .nil)))))) (.cons (.exp (.mth .append (.var 2) (.cons (.slc (.var 0) (.yes (.var 4)) (.yes (.bin .add (.var 5) (.cst (.int 1))))) .nil))) (.cons (.asg (.name 4) (.bin .add (.var 5) (.cst (.int 1)))) .nil)) .nil) .nil)))))) (.cons (.ifs (.cmp .ne (.var 3) (.cst (.int 0))) (.cons (.ret (.cst .non)) .nil) .nil) (.cons (.ret (.bin .add (.var 2) (.lst (.cons (.slc (.var 0) (.yes (.var 4)) .no) .nil)))) .nil))))))⟩
def f352_L_joined : Def := ⟨2, 5, (.cons (.ifs (.isN (.var 1)) (.cons (.ret (.cst .non)) .nil) .nil) (.cons (.asg (.name 2) (.cst .non)) (.cons (.fors (.name 3) (.range1 (.blt .len (.cons (.var 1) .nil))) (.cons (.ifs (.cmp .eq (.var 0) (.cst (.str [116, 104, 101, 110]))) (.cons (.asg (.name 4) (.call 354 (.cons (.sub (.var 1) (.var 3)) .nil))) .nil) (.cons (.asg (.name 4) (.call 353 (.cons (.sub (.var 1) (.var 3)) .nil))) .nil)) (.cons (.ifs (.isN (.var 4)) (.cons (.ret (.cst .non)) .nil) .nil) (.cons (.asg (.name 2) (.sub (.lst (.cons (.tup (.cons (.var 0) (.cons (.var 2) (.cons (.var 4) .nil)))) (.cons (.var 4) .nil))) (.blt .int (.cons (.cmp .eq (.var 3) (.cst (.int 0))) .nil)))) .nil)))) (.cons (.ret (.var 2)) .nil))))⟩
def f353_L_row_of : Def := ⟨1, 1, (.cons (.ret (.call 352 (.cons (.cst (.str [116, 104, 101, 110])) (.cons (.call 351 (.cons (.var 0) (.cons (.cst (.str [])) .nil))) .nil)))) .nil)⟩
def f354_L_atom_of : Def := ⟨1, 2, (.cons (.ifs (.and (.cmp .ne (.slc (.var 0) (.yes (.cst (.int 1))) .no) (.cst (.str []))) (.cmp .eq (.slc (.var 0) (.yes (.neg (.cst (.int 1)))) .no) (.cst (.str [42])))) (.cons (.asg (.name 1) (.call 354 (.cons (.slc (.var 0) .no (.yes (.neg (.cst (.int 1))))) .nil))) (.cons (.ifs (.isN (.var 1)) (.cons (.ret (.cst .non)) .nil) .nil) (.cons (.ret (.tup (.cons (.cst (.str [115, 116, 97, 114])) (.cons (.var 1) .nil)))) .nil))) .nil) (.cons (.ifs (.and (.cmp .eq (.slc (.var 0) .no (.yes (.cst (.int 1)))) (.cst (.str [40]))) (.cmp .eq (.slc (.var 0) (.yes (.neg (.cst (.int 1)))) .no) (.cst (.str [41])))) (.cons (.ret (.call 355 (.cons (.slc (.var 0) (.yes (.cst (.int 1))) (.yes (.neg (.cst (.int 1))))) .nil))) .nil) .nil) (.cons (.ifs (.or (.cmp .ne (.blt .len (.cons (.var 0) .nil)) (.cst (.int 1))) (.cmp .notin (.var 0) (.cst (.str [48, 49, 97, 98, 99, 100, 101, 102, 103, 104])))) (.cons (.ret (.cst .non)) .nil) .nil) (.cons (.ret (.sub (.lst (.cons (.tup (.cons (.cst (.str [110, 111, 110, 101])) .nil)) (.cons (.tup (.cons (.cst (.str [101, 109, 112, 116, 121])) .nil)) (.cons (.tup (.cons (.cst (.str [115, 105, 103, 110])) (.cons (.var 0) .nil))) .nil)))) (.bin .mod (.mth .find (.cst (.str [48, 49])) (.cons (.var 0) .nil)) (.cst (.int 3))))) .nil))))⟩
def f355_L_whole_of : Def := ⟨1, 1, (.cons (.ret (.call 352 (.cons (.cst (.str [111, 114])) (.cons (.call 351 (.cons (.var 0) (.cons (.cst (.str [124])) .nil))) .nil)))) .nil)⟩
def f356_L_due : Def := ⟨1, 2, (.cons (.asg (.name 1) (.call 355 (.cons (.var 0) .nil))) (.cons (.ifs (.or (.isN (.var 1)) (.cmp .ne (.call 349 (.cons (.var 1) .nil)) (.var 0))) (.cons (.ret (.cst .non)) .nil) .nil) (.cons (.ret (.var 1)) .nil)))⟩
def f357_L_answer : Def := ⟨1, 4, (.cons (.asg (.name 1) (.cst .non)) (.cons (.asg (.name 2) (.cst .non)) (.cons (.trys (.cons (.asg (.name 2) (.call 348 (.cons (.var 0) .nil))) .nil) 0 3 1) (.cons (.ifs (.isN (.var 1)) (.cons (.ret (.var 2)) .nil) .nil) (.cons (.ifs (.or (.cmp .ne (.call 217 (.cons (.var 1) .nil)) (.cst (.str [116, 101, 120, 116]))) (.not (.call 73 (.cons (.fld 1 (.var 1)) .nil)))) (.cons (.ret (.cst (.str [119, 114, 111, 110, 103]))) .nil) .nil) (.cons (.ret (.fld 1 (.var 1))) .nil))))))⟩
def f358_L_both : Def := ⟨1, 2, (.cons (.asg (.name 1) (.call 356 (.cons (.var 0) .nil))) (.cons (.ifs (.isN (.var 1)) (.cons (.asg (.name 1) (.cst (.int 1))) .nil) .nil) (.cons (.ret (.cmp .eq (.call 357 (.cons (.var 0) .nil)) (.var 1))) .nil)))⟩
def f359_L_bent : Def := ⟨2, 8, (.cons (.asg (.name 2) (.cst (.str [48, 49, 97, 98, 40, 41, 124, 42, 32, 104, 10, 43, 105, 63, 65]))) (.cons (.asg (.name 3) (.call 13 (.cons (.var 0) (.cons (.bin .add (.blt .len (.cons (.var 1) .nil)) (.cst (.int 1))) .nil)))) (.cons (.asg (.name 4) (.sub (.var 2) (.call 13 (.cons (.var 0) (.cons (.blt .len (.cons (.var 2) .nil)) .nil))))) (.cons (.asg (.name 5) (.call 13 (.cons (.var 0) (.cons (.cst (.int 5)) .nil)))) (.cons (.ifs (.cmp .eq (.var 5) (.cst (.int 0))) (.cons (.ret (.bin .add (.bin .add (.slc (.var 1) .no (.yes (.var 3))) (.var 4)) (.slc (.var 1) (.yes (.var 3)) .no))) .nil) .nil) (.cons (.ifs (.cmp .eq (.var 5) (.cst (.int 1))) (.cons (.ret (.bin .add (.slc (.var 1) .no (.yes (.var 3))) (.slc (.var 1) (.yes (.bin .add (.var 3) (.cst (.int 1)))) .no))) .nil) .nil) (.cons (.ifs (.cmp .eq (.var 5) (.cst (.int 2))) (.cons (.ret (.bin .add (.bin .add (.slc (.var 1) .no (.yes (.var 3))) (.var 4)) (.slc (.var 1) (.yes (.bin .add (.var 3) (.cst (.int 1)))) .no))) .nil) .nil) (.cons (.asg (.name 6) (.bin .add (.var 3) (.call 13 (.cons (.var 0) (.cons (.bin .add (.bin .sub (.blt .len (.cons (.var 1) .nil)) (.var 3)) (.cst (.int 1))) .nil))))) (.cons (.asg (.name 7) (.slc (.var 1) (.yes (.var 3)) (.yes (.var 6)))) (.cons (.ifs (.cmp .eq (.var 5) (.cst (.int 3))) (.cons (.asg (.name 7) (.bin .add (.bin .add (.cst (.str [40])) (.var 7)) (.cst (.str [41])))) .nil) (.cons (.asg (.name 7) (.bin .add (.var 7) (.var 7))) .nil)) (.cons (.ret (.bin .add (.bin .add (.slc (.var 1) .no (.yes (.var 3))) (.var 7)) (.slc (.var 1) (.yes (.var 6)) .no))) .nil)))))))))))⟩
def f0_k60 : Def := ⟨1, 10, (.cons (.fors (.name 1) (.range1 (.blt .max (.cons (.cst (.int 2)) (.cons (.blt .min (.cons (.blt .len (.cons (.var 0) .nil)) (.cons (.cst (.int 8)) .nil))) .nil)))) (.cons (.asg (.name 3) (.call 12 (.cons (.var 0) (.cons (.var 1) .nil)))) (.cons (.asg (.name 4) (.call 14 (.cons (.var 3) .nil))) (.cons (.asg (.name 5) (.call 17 (.cons (.var 3) (.cons (.var 4) (.cons (.cst (.int 8)) .nil))))) (.cons (.asg (.name 6) (.blt .str (.cons (.var 5) .nil))) (.cons (.asg (.name 7) (.call 349 (.cons (.var 5) .nil))) (.cons (.ifs (.or (.cmp .ne (.call 342 (.cons (.var 5) .nil)) (.var 7)) (.cmp .ne (.blt .str (.cons (.var 5) .nil)) (.var 6))) (.cons (.ret (.cst (.bl false))) .nil) .nil) (.cons (.ifs (.cmp .ne (.call 348 (.cons (.var 7) .nil)) (.var 5)) (.cons (.ret (.cst (.bl false))) .nil) .nil) (.cons (.fors (.name 8) (.range1 (.cst (.int 8))) (.cons (.asg (.name 9) (.call 359 (.cons (.var 3) (.cons (.var 7) .nil)))) (.cons (.ifs (.cmp .gt (.var 8) (.cst (.int 5))) (.cons (.asg (.name 9) (.call 359 (.cons (.var 3) (.cons (.var 9) .nil)))) .nil) .nil) (.cons (.ifs (.not (.call 358 (.cons (.var 9) .nil))) (.cons (.ret (.cst (.bl false))) .nil) .nil) .nil)))) .nil))))))))) (.cons (.asg (.name 2) (.lst (.cons (.cst (.str [])) (.cons (.cst (.str [97])) (.cons (.cst (.str [40, 41])) (.cons (.cst (.str [40, 97, 41])) (.cons (.cst (.str [97, 124])) (.cons (.cst (.str [124, 97])) (.cons (.cst (.str [97, 124, 124, 98])) (.cons (.cst (.str [97, 40, 98, 41])) (.cons (.cst (.str [97, 40, 98, 99, 41])) (.cons (.cst (.str [40, 97, 98, 41, 99])) (.cons (.cst (.str [40, 97, 124, 98, 41, 124, 99])) (.cons (.cst (.str [97, 124, 40, 98, 124, 99, 41])) (.cons (.cst (.str [97, 124, 40, 98, 99, 41])) .nil))))))))))))))) (.cons (.asg (.name 2) (.bin .add (.var 2) (.lst (.cons (.cst (.str [40, 97, 41, 42])) (.cons (.cst (.str [97, 42, 42])) (.cons (.cst (.str [40, 97, 98, 41, 42])) (.cons (.cst (.str [97, 98, 42])) (.cons (.cst (.str [40, 97, 42, 41, 42])) (.cons (.cst (.str [42])) (.cons (.cst (.str [97, 42, 98, 42, 124, 49])) (.cons (.cst (.str [48, 124, 49])) (.cons (.cst (.str [40, 40, 97, 124, 98, 41, 41, 99])) (.cons (.cst (.str [97, 32, 98])) (.cons (.cst (.str [65])) (.cons (.cst (.str [105])) (.cons (.cst (.str [97, 124, 98, 10])) .nil)))))))))))))))) (.cons (.asg (.name 2) (.bin .add (.var 2) (.lst (.cons (.cst (.str [40, 97])) (.cons (.cst (.str [97, 41])) (.cons (.cst (.str [41, 97, 40])) (.cons (.cst (.str [40, 97, 124, 98, 41, 42, 99])) .nil))))))) (.cons (.asg (.name 2) (.bin .add (.var 2) (.lst (.cons (.cst (.str [97, 40, 40, 98, 99, 41, 100, 41])) (.cons (.cst (.str [97, 40, 98, 40, 99, 100, 41, 41])) (.cons (.cst (.str [40, 48, 124, 97, 40, 98, 99, 41, 42, 41, 49, 124, 97, 98])) (.cons (.cst (.str [50])) (.cons (.cst (.str [97, 42, 40, 98, 124, 49, 41, 42, 48])) (.cons (.cst (.str [40, 42, 97, 41])) (.cons (.cst (.str [97, 124, 42])) (.cons (.cst (.str [49, 48])) (.cons (.cst (.str [48, 49, 42])) .nil)))))))))))) (.cons (.ret (.cmp .eq (.comp (.var 7) (.name 7) (.val (.var 2)) (.yes (.not (.call 358 (.cons (.var 7) .nil)))) [7]) (.lst .nil))) .nil))))))⟩
end SL
set_option Elab.async false
set_option linter.all false
set_option maxRecDepth 100000
set_option maxHeartbeats 0
namespace SL.k60
open PySem PySem.Spec PyProof.Rows L2 SL
def top (i : Nat) : Stmt := PySem.Challenge.pw_starlines_k60_patterns_written.main.body.getD i (.Pass ⟨0, 0, 0, 0⟩)
def d_f1_is_right_word : Fd := ⟨"is_right_word", top 20, 1, ["thing", "sign"], ["thing"], f1_is_right_word, false⟩
def d_f2_is_right_pattern : Fd := ⟨"is_right_pattern", top 21, 2, ["thing", "part"], ["thing"], f2_is_right_pattern, false⟩
def d_f3_look_at_pattern : Fd := ⟨"look_at_pattern", top 22, 3, ["pattern"], ["pattern"], f3_look_at_pattern, false⟩
def d_f340_written : Fd := ⟨"written", top 24, 340, ["pattern"], ["pattern"], f340_written, false⟩
def d_f341_within_brackets : Fd := ⟨"within_brackets", top 25, 341, ["pattern", "words"], ["pattern", "words"], f341_within_brackets, false⟩
def d_f342_pattern_text : Fd := ⟨"pattern_text", top 26, 342, ["pattern"], ["pattern"], f342_pattern_text, false⟩
def d_f343_inner_read : Fd := ⟨"inner_read", top 27, 343, ["text", "place", "found"], ["text", "place"], f343_inner_read, false⟩
def d_f344_atom_read : Fd := ⟨"atom_read", top 28, 344, ["text", "place", "here", "found", "pattern"], ["text", "place"], f344_atom_read, false⟩
def d_f345_row_read : Fd := ⟨"row_read", top 29, 345, ["text", "place", "found", "other"], ["text", "place"], f345_row_read, false⟩
def d_f346_either_read : Fd := ⟨"either_read", top 30, 346, ["text", "place", "found", "other"], ["text", "place"], f346_either_read, false⟩
def d_f347_pattern_read : Fd := ⟨"pattern_read", top 31, 347, ["text", "found"], ["text"], f347_pattern_read, false⟩
def d_f348_read_pattern : Fd := ⟨"read_pattern", top 32, 348, ["text", "found"], ["text"], f348_read_pattern, false⟩
def d_f11_L_mixed : Fd := ⟨"_law_mixed", top 34, 11, ["_law_cell", "_law_k", "_law_number"], ["_law_cell", "_law_k"], f11_L_mixed, false⟩
def d_f12_L_pile : Fd := ⟨"_law_pile", top 35, 12, ["_law_script", "_law_k", "_law_cell", "_law_found", "_law_j"], ["_law_script", "_law_k"], f12_L_pile, false⟩
def d_f13_L_take : Fd := ⟨"_law_take", top 36, 13, ["_law_pile_here", "_law_size", "_law_digit"], ["_law_pile_here", "_law_size"], f13_L_take, false⟩
def d_f14_L_letters : Fd := ⟨"_law_letters", top 37, 14, ["_law_pile_here"], ["_law_pile_here"], f14_L_letters, false⟩
def d_f15_L_leaf : Fd := ⟨"_law_leaf", top 38, 15, ["_law_pile_here", "_law_letters_here", "_law_room", "_law_way"], ["_law_pile_here", "_law_letters_here", "_law_room"], f15_L_leaf, false⟩
def d_f16_L_pattern : Fd := ⟨"_law_pattern", top 39, 16, ["_law_pile_here", "_law_letters_here", "_law_room", "_law_depth", "_law_way", "_law_one"], ["_law_pile_here", "_law_letters_here", "_law_room", "_law_depth"], f16_L_pattern, false⟩
def d_f17_L_drawn : Fd := ⟨"_law_drawn", top 40, 17, ["_law_pile_here", "_law_letters_here", "_law_most"], ["_law_pile_here", "_law_letters_here", "_law_most"], f17_L_drawn, false⟩
def d_f73_L_whole : Fd := ⟨"_law_whole", top 41, 73, ["_law_thing"], ["_law_thing"], f73_L_whole, false⟩
def d_f216_L_kinds : Fd := ⟨"_law_kinds", top 42, 216, ["_law_error", "_law_found", "_law_words", "_law_word_here", "_law_truth"], ["_law_error"], f216_L_kinds, false⟩
def d_f217_L_word : Fd := ⟨"_law_word", top 43, 217, ["_law_error", "_law_found"], ["_law_error"], f217_L_word, false⟩
def d_f349_L_text : Fd := ⟨"_law_text", top 44, 349, ["_law_pattern_here", "_law_word_here"], ["_law_pattern_here"], f349_L_text, false⟩
def d_f350_L_in_brackets : Fd := ⟨"_law_in_brackets", top 45, 350, ["_law_pattern_here", "_law_words"], ["_law_pattern_here", "_law_words"], f350_L_in_brackets, false⟩
def d_f351_L_cut : Fd := ⟨"_law_cut", top 46, 351, ["_law_text_here", "_law_sign", "_law_found", "_law_depth", "_law_begun", "_law_k", "_law_ahead"], ["_law_text_here", "_law_sign"], f351_L_cut, false⟩
def d_f352_L_joined : Fd := ⟨"_law_joined", top 47, 352, ["_law_word_here", "_law_parts", "_law_found", "_law_k", "_law_one"], ["_law_word_here", "_law_parts"], f352_L_joined, false⟩
def d_f353_L_row_of : Fd := ⟨"_law_row_of", top 48, 353, ["_law_text_here"], ["_law_text_here"], f353_L_row_of, false⟩
def d_f354_L_atom_of : Fd := ⟨"_law_atom_of", top 49, 354, ["_law_text_here", "_law_inner"], ["_law_text_here"], f354_L_atom_of, false⟩
def d_f355_L_whole_of : Fd := ⟨"_law_whole_of", top 50, 355, ["_law_text_here"], ["_law_text_here"], f355_L_whole_of, false⟩
def d_f356_L_due : Fd := ⟨"_law_due", top 51, 356, ["_law_text_here", "_law_found"], ["_law_text_here"], f356_L_due, false⟩
def d_f357_L_answer : Fd := ⟨"_law_answer", top 52, 357, ["_law_text_here", "_law_error", "_law_found", "e"], ["_law_text_here"], f357_L_answer, false⟩
def d_f358_L_both : Fd := ⟨"_law_both", top 53, 358, ["_law_text_here", "_law_due_here"], ["_law_text_here"], f358_L_both, false⟩
def d_f359_L_bent : Fd := ⟨"_law_bent", top 54, 359, ["_law_pile_here", "_law_text_here", "_law_signs", "_law_at", "_law_sign", "_law_way", "_law_end", "_law_inner"], ["_law_pile_here", "_law_text_here"], f359_L_bent, false⟩
def d_f0_k60 : Fd := ⟨"law", top 55, 0, ["_law_script", "_law_k", "_law_odd", "_law_pile_here", "_law_letters_here", "_law_pattern_here", "_law_kept", "_law_text_here", "_law_turn", "_law_bent_here"], ["_law_script"], f0_k60, false⟩
def defs : List Fd := [d_f1_is_right_word, d_f2_is_right_pattern, d_f3_look_at_pattern, d_f340_written, d_f341_within_brackets, d_f342_pattern_text, d_f343_inner_read, d_f344_atom_read, d_f345_row_read, d_f346_either_read, d_f347_pattern_read, d_f348_read_pattern, d_f11_L_mixed, d_f12_L_pile, d_f13_L_take, d_f14_L_letters, d_f15_L_leaf, d_f16_L_pattern, d_f17_L_drawn, d_f73_L_whole, d_f216_L_kinds, d_f217_L_word, d_f349_L_text, d_f350_L_in_brackets, d_f351_L_cut, d_f352_L_joined, d_f353_L_row_of, d_f354_L_atom_of, d_f355_L_whole_of, d_f356_L_due, d_f357_L_answer, d_f358_L_both, d_f359_L_bent, d_f0_k60]
def gl : List Nat := [0, 1, 2]
def inis : List Fi := [⟨14, "NoText.__init__", initSt (top 15), ["self", "line"]⟩]
theorem inisOk : ∀ I ∈ inis, iniT I = true ∧ BindI I := by
  intro I h
  simp only [inis, List.mem_cons, List.not_mem_nil, or_false] at h
  subst h
  exact ⟨by decide +kernel, fun _ _ _ _ _ _ us hl => match us, hl with | [_, _], _ => rfl⟩
def cl : List Nat := [0, 1, 2, 3, 4, 5, 6, 7, 8, 9, 10, 11, 12, 13, 14]
theorem binds : AllF BindP defs := ⟨(fun _ _ _ _ _ _ us hl => match us, hl with | [_], _ => rfl), (fun _ _ _ _ _ _ us hl => match us, hl with | [_], _ => rfl), (fun _ _ _ _ _ _ us hl => match us, hl with | [_], _ => rfl), (fun _ _ _ _ _ _ us hl => match us, hl with | [_], _ => rfl), (fun _ _ _ _ _ _ us hl => match us, hl with | [_, _], _ => rfl), (fun _ _ _ _ _ _ us hl => match us, hl with | [_], _ => rfl), (fun _ _ _ _ _ _ us hl => match us, hl with | [_, _], _ => rfl), (fun _ _ _ _ _ _ us hl => match us, hl with | [_, _], _ => rfl), (fun _ _ _ _ _ _ us hl => match us, hl with | [_, _], _ => rfl), (fun _ _ _ _ _ _ us hl => match us, hl with | [_, _], _ => rfl), (fun _ _ _ _ _ _ us hl => match us, hl with | [_], _ => rfl), (fun _ _ _ _ _ _ us hl => match us, hl with | [_], _ => rfl), (fun _ _ _ _ _ _ us hl => match us, hl with | [_, _], _ => rfl), (fun _ _ _ _ _ _ us hl => match us, hl with | [_, _], _ => rfl), (fun _ _ _ _ _ _ us hl => match us, hl with | [_, _], _ => rfl), (fun _ _ _ _ _ _ us hl => match us, hl with | [_], _ => rfl), (fun _ _ _ _ _ _ us hl => match us, hl with | [_, _, _], _ => rfl), (fun _ _ _ _ _ _ us hl => match us, hl with | [_, _, _, _], _ => rfl), (fun _ _ _ _ _ _ us hl => match us, hl with | [_, _, _], _ => rfl), (fun _ _ _ _ _ _ us hl => match us, hl with | [_], _ => rfl), (fun _ _ _ _ _ _ us hl => match us, hl with | [_], _ => rfl), (fun _ _ _ _ _ _ us hl => match us, hl with | [_], _ => rfl), (fun _ _ _ _ _ _ us hl => match us, hl with | [_], _ => rfl), (fun _ _ _ _ _ _ us hl => match us, hl with | [_, _], _ => rfl), (fun _ _ _ _ _ _ us hl => match us, hl with | [_, _], _ => rfl), (fun _ _ _ _ _ _ us hl => match us, hl with | [_, _], _ => rfl), (fun _ _ _ _ _ _ us hl => match us, hl with | [_], _ => rfl), (fun _ _ _ _ _ _ us hl => match us, hl with | [_], _ => rfl), (fun _ _ _ _ _ _ us hl => match us, hl with | [_], _ => rfl), (fun _ _ _ _ _ _ us hl => match us, hl with | [_], _ => rfl), (fun _ _ _ _ _ _ us hl => match us, hl with | [_], _ => rfl), (fun _ _ _ _ _ _ us hl => match us, hl with | [_], _ => rfl), (fun _ _ _ _ _ _ us hl => match us, hl with | [_, _], _ => rfl), (fun _ _ _ _ _ _ us hl => match us, hl with | [_], _ => rfl), trivial⟩
theorem phis : AllF (fun F => PhiOf defs F.id = some F.d) defs := ⟨rfl, rfl, rfl, rfl, rfl, rfl, rfl, rfl, rfl, rfl, rfl, rfl, rfl, rfl, rfl, rfl, rfl, rfl, rfl, rfl, rfl, rfl, rfl, rfl, rfl, rfl, rfl, rfl, rfl, rfl, rfl, rfl, rfl, rfl, trivial⟩
theorem c_f1_is_right_word : defB defs gl cl inis d_f1_is_right_word = true := by decide +kernel
theorem c_f2_is_right_pattern : defB defs gl cl inis d_f2_is_right_pattern = true := by decide +kernel
theorem c_f3_look_at_pattern : defB defs gl cl inis d_f3_look_at_pattern = true := by decide +kernel
theorem c_f340_written : defB defs gl cl inis d_f340_written = true := by decide +kernel
theorem c_f341_within_brackets : defB defs gl cl inis d_f341_within_brackets = true := by decide +kernel
theorem c_f342_pattern_text : defB defs gl cl inis d_f342_pattern_text = true := by decide +kernel
theorem c_f343_inner_read : defB defs gl cl inis d_f343_inner_read = true := by decide +kernel
theorem c_f344_atom_read : defB defs gl cl inis d_f344_atom_read = true := by decide +kernel
theorem c_f345_row_read : defB defs gl cl inis d_f345_row_read = true := by decide +kernel
theorem c_f346_either_read : defB defs gl cl inis d_f346_either_read = true := by decide +kernel
theorem c_f347_pattern_read : defB defs gl cl inis d_f347_pattern_read = true := by decide +kernel
theorem c_f348_read_pattern : defB defs gl cl inis d_f348_read_pattern = true := by decide +kernel
theorem c_f11_L_mixed : defB defs gl cl inis d_f11_L_mixed = true := by decide +kernel
theorem c_f12_L_pile : defB defs gl cl inis d_f12_L_pile = true := by decide +kernel
theorem c_f13_L_take : defB defs gl cl inis d_f13_L_take = true := by decide +kernel
theorem c_f14_L_letters : defB defs gl cl inis d_f14_L_letters = true := by decide +kernel
theorem c_f15_L_leaf : defB defs gl cl inis d_f15_L_leaf = true := by decide +kernel
theorem c_f16_L_pattern : defB defs gl cl inis d_f16_L_pattern = true := by decide +kernel
theorem c_f17_L_drawn : defB defs gl cl inis d_f17_L_drawn = true := by decide +kernel
theorem c_f73_L_whole : defB defs gl cl inis d_f73_L_whole = true := by decide +kernel
theorem c_f216_L_kinds : defB defs gl cl inis d_f216_L_kinds = true := by decide +kernel
theorem c_f217_L_word : defB defs gl cl inis d_f217_L_word = true := by decide +kernel
theorem c_f349_L_text : defB defs gl cl inis d_f349_L_text = true := by decide +kernel
theorem c_f350_L_in_brackets : defB defs gl cl inis d_f350_L_in_brackets = true := by decide +kernel
theorem c_f351_L_cut : defB defs gl cl inis d_f351_L_cut = true := by decide +kernel
theorem c_f352_L_joined : defB defs gl cl inis d_f352_L_joined = true := by decide +kernel
theorem c_f353_L_row_of : defB defs gl cl inis d_f353_L_row_of = true := by decide +kernel
theorem c_f354_L_atom_of : defB defs gl cl inis d_f354_L_atom_of = true := by decide +kernel
theorem c_f355_L_whole_of : defB defs gl cl inis d_f355_L_whole_of = true := by decide +kernel
theorem c_f356_L_due : defB defs gl cl inis d_f356_L_due = true := by decide +kernel
theorem c_f357_L_answer : defB defs gl cl inis d_f357_L_answer = true := by decide +kernel
theorem c_f358_L_both : defB defs gl cl inis d_f358_L_both = true := by decide +kernel
theorem c_f359_L_bent : defB defs gl cl inis d_f359_L_bent = true := by decide +kernel
theorem c_f0_k60 : defB defs gl cl inis d_f0_k60 = true := by decide +kernel
theorem checks : AllF (fun F => defB defs gl cl inis F = true) defs := ⟨c_f1_is_right_word, c_f2_is_right_pattern, c_f3_look_at_pattern, c_f340_written, c_f341_within_brackets, c_f342_pattern_text, c_f343_inner_read, c_f344_atom_read, c_f345_row_read, c_f346_either_read, c_f347_pattern_read, c_f348_read_pattern, c_f11_L_mixed, c_f12_L_pile, c_f13_L_take, c_f14_L_letters, c_f15_L_leaf, c_f16_L_pattern, c_f17_L_drawn, c_f73_L_whole, c_f216_L_kinds, c_f217_L_word, c_f349_L_text, c_f350_L_in_brackets, c_f351_L_cut, c_f352_L_joined, c_f353_L_row_of, c_f354_L_atom_of, c_f355_L_whole_of, c_f356_L_due, c_f357_L_answer, c_f358_L_both, c_f359_L_bent, c_f0_k60, trivial⟩
theorem law_in : d_f0_k60 ∈ defs := by simp [defs]
end SL.k60
set_option Elab.async false
set_option linter.all false
set_option maxRecDepth 100000
set_option maxHeartbeats 0
namespace SL.k60
open PySem PySem.Spec PyProof.Rows L2 SL
abbrev R : PySem.W.OpenRow := PySem.W.OpenLaw.row PySem.Challenge.rw_starlines_k60_patterns_written
def fn : List He.DefD := (defs.map fun F => ⟨(F.nm, none), F.nm, F.nm, defArgs F.st, defBody F.st, defScope F.st, (if F.df then [.adr (dfl0 F)] else []), []⟩) ++ inis.map fun I => ⟨(clsName I.c, some "__init__"), "__init__", I.qual, defArgs I.st, defBody I.st, defScope I.st, [], []⟩
def fa : List He.Fa := defs.map fun F => .glo F.nm
abbrev hk : PySem.W.Hook := He.hookX 5 fa fn [] [] (exM defs gl cl inis)
def ob (s : PySem.W.SharedT) : He.AlX := He.obsX 5 fa fn [] [] (exM defs gl cl inis) (HandSHeadRun.getT s)
theorem ob_eq (s : PySem.W.SharedT) : ob s = hk.obs s.abs := He.obsX_eq (HandSHeadRun.getT_eq s)
def names0 : List PySem.Str := ["__name__", "LinesError", "NoPattern", "NoWord", "NoLength", "NoTold", "NoSigns", "NoLines", "NoLine", "NoNumber", "Unlike", "NoRows", "ManySolve", "OneSolves", "Parted", "NoText", "SIGNS", "NONE", "EMPTY", "is_right_word", "is_right_pattern", "look_at_pattern", "written", "within_brackets", "pattern_text", "inner_read", "atom_read", "row_read", "either_read", "pattern_read"]
def names1 : List PySem.Str := ["read_pattern", "_law_mixed", "_law_pile", "_law_take", "_law_letters", "_law_leaf", "_law_pattern", "_law_drawn", "_law_whole", "_law_kinds", "_law_word", "_law_text", "_law_in_brackets", "_law_cut", "_law_joined", "_law_row_of", "_law_atom_of", "_law_whole_of", "_law_due", "_law_answer", "_law_both", "_law_bent"]
def names : List PySem.Str := names0 ++ names1
theorem run (w : World) : HandSHeadRun.RunEq R (PySem.W.view R.prog [55]) hk ob 30000 names w := by
  intro os
  kernel_rfl
theorem told {w : World} {h : Heap} {K : PySem.W.Frag} (c : He.SaysX fa fn [] [] (exM defs gl cl inis) w h K) : Told defs gl cl inis K :=
  ⟨exM_ex c.more, fun F hF => He.eqO_ok (He.SaysD.facts c.t.d (f := .glo F.nm) (List.mem_map.mpr ⟨F, hF, rfl⟩)), fun F hF => dfs_ok (He.SaysD.defs c.t.d (d := ⟨(F.nm, none), F.nm, F.nm, defArgs F.st, defBody F.st, defScope F.st, (if F.df then [.adr (dfl0 F)] else []), []⟩) (List.mem_append_left _ (List.mem_map.mpr ⟨F, hF, rfl⟩))), fun F hF => exM_em c.more F hF, fun I hI => ⟨exM_ini c.more I hI, He.SaysD.defs c.t.d (d := ⟨(clsName I.c, some "__init__"), "__init__", I.qual, defArgs I.st, defBody I.st, defScope I.st, [], []⟩) (List.mem_append_right _ (List.mem_map.mpr ⟨I, hI, rfl⟩))⟩⟩
end SL.k60
set_option Elab.async false
set_option linter.all false
set_option maxRecDepth 100000
set_option maxHeartbeats 1000000
/-! C0: reckoning with the pure meaning. -/
namespace SL
open PySem
/-! ### plain data -/
mutual
def toP : D → PyData
  | .non => .none
  | .bl b => .bool b
  | .int i => .int i
  | .str x => .str ⟨x.toArray⟩
  | .tup ds => .tuple (toPs ds)
  | .lst ds => .list (toPs ds)
  | .scr _ => .none
  | .ref _ => .none
  | .dct _ _ => .none
def toPs : List D → List PyData
  | [] => []
  | d :: ds => toP d :: toPs ds
end
mutual
def flat : D → Bool
  | .tup ds => flats ds
  | .lst ds => flats ds
  | .scr _ => false
  | .ref _ => false
  | .dct _ _ => false
  | _ => true
def flats : List D → Bool
  | [] => true
  | d :: ds => flat d && flats ds
end
mutual
theorem res_flat (S : Sto) : ∀ (n : Nat) (d : D), flat d = true → (toP d).depth < n → res S n d = some (toP d)
  | 0, _, _, h => by omega
  | n + 1, .non, _, _ => rfl
  | n + 1, .bl _, _, _ => rfl
  | n + 1, .int _, _, _ => rfl
  | n + 1, .str _, _, _ => rfl
  | n + 1, .scr _, h, _ => by cases h
  | n + 1, .ref _, h, _ => by cases h
  | n + 1, .dct _ _, h, _ => by cases h
  | n + 1, .tup ds, h, hd => by
    have hd' : PyData.depthAll (toPs ds) + 1 < n + 1 := hd
    unfold res
    rw [resL_flat S n ds h (by omega)]
    rfl
  | n + 1, .lst ds, h, hd => by
    have hd' : PyData.depthAll (toPs ds) + 1 < n + 1 := hd
    unfold res
    rw [resL_flat S n ds h (by omega)]
    rfl
theorem resL_flat (S : Sto) : ∀ (n : Nat) (ds : List D), flats ds = true → PyData.depthAll (toPs ds) < n → resL (res S n) ds = some (toPs ds)
  | n, [], _, _ => rfl
  | n, d :: ds, h, hd => by
    obtain ⟨h1, h2⟩ := and2 (show (flat d && flats ds) = true from h)
    have hd' : max (toP d).depth (PyData.depthAll (toPs ds)) < n := hd
    unfold resL
    rw [res_flat S n d h1 (by omega), resL_flat S n ds h2 (by omega)]
    rfl
end
/-- plain data that may be compared -/
structure Dt (d : D) : Prop where
  fl : flat d = true
  lay : (toP d).canLay0 = true
  dep : (toP d).depth ≤ 64
theorem Dt.look {d : D} (h : Dt d) (S : Sto) : look S d = some (toP d) := by
  unfold SL.look
  rw [res_flat S 70 d h.fl (by have := h.dep; omega)]
  have : fit (toP d) = true := by unfold fit; rw [h.lay, decide_eq_true h.dep]; rfl
  dsimp only
  rw [if_pos this]
theorem Dt.str {x : List Nat} (h : ∀ c ∈ x, c < 1114112) : Dt (.str x) := by
  refine ⟨rfl, ?_, Nat.zero_le _⟩
  show (⟨x.toArray⟩ : Str).cps.all (· < 0x110000) = true
  simp only [Array.all_eq_true', List.mem_toArray]
  intro c hc
  exact decide_eq_true (h c hc)
theorem Dt.codes {x : List Nat} (h : Dt (.str x)) : ∀ c ∈ x, c < 1114112 := by
  have l : (⟨x.toArray⟩ : Str).cps.all (· < 0x110000) = true := h.lay
  simp only [Array.all_eq_true', List.mem_toArray] at l
  exact fun c hc => of_decide_eq_true (l c hc)
theorem Dt.int {i : Int} : Dt (.int i) := ⟨rfl, rfl, Nat.zero_le _⟩
theorem Dt.bl {i : Bool} : Dt (.bl i) := ⟨rfl, rfl, Nat.zero_le _⟩
theorem Dt.non : Dt .non := ⟨rfl, rfl, Nat.zero_le _⟩
theorem Dt.mem {ds : List D} (fl : flats ds = true) (lay : PyData.canLayAll0 (toPs ds) = true) {m : Nat} (dep : PyData.depthAll (toPs ds) ≤ m) : ∀ d ∈ ds, flat d = true ∧ (toP d).canLay0 = true ∧ (toP d).depth ≤ m := by
  induction ds with
  | nil => intro d hd; cases hd
  | cons e r ih =>
    intro d hd
    obtain ⟨f1, f2⟩ := and2 (show (flat e && flats r) = true from fl)
    have l' : (PyData.canLay0 (toP e) && PyData.canLayAll0 (toPs r)) = true := by simpa [toPs, PyData.canLayAll0] using lay
    obtain ⟨l1, l2⟩ := and2 l'
    have dd : max (toP e).depth (PyData.depthAll (toPs r)) ≤ m := dep
    rcases List.mem_cons.mp hd with rfl | hd
    · exact ⟨f1, l1, by omega⟩
    · exact ih f2 l2 (by omega) d hd
theorem Dt.tup {ds : List D} (h : ∀ d ∈ ds, Dt d) (hd : PyData.depthAll (toPs ds) ≤ 63) : Dt (.tup ds) ∧ Dt (.lst ds) := by
  have key : flats ds = true ∧ PyData.canLayAll0 (toPs ds) = true := by
    clear hd
    induction ds with
    | nil => exact ⟨rfl, by simp [toPs, PyData.canLayAll0]⟩
    | cons e r ih =>
      obtain ⟨a, b⟩ := ih fun d hd => h d (List.mem_cons_of_mem _ hd)
      have c := h e List.mem_cons_self
      exact ⟨by show (flat e && flats r) = true; rw [c.fl, a]; rfl, by simp [toPs, PyData.canLayAll0, c.lay, b]⟩
  have d2 : PyData.depthAll (toPs ds) + 1 ≤ 64 := by omega
  exact ⟨⟨key.1, by simpa [toP, PyData.canLay0] using key.2, by simpa [toP, PyData.depth] using d2⟩, ⟨key.1, by simpa [toP, PyData.canLay0] using key.2, by simpa [toP, PyData.depth] using d2⟩⟩
theorem Dt.parts {ds : List D} (h : Dt (.tup ds)) : ∀ d ∈ ds, Dt d ∧ (toP d).depth < (toP (.tup ds)).depth := by
  have lay : PyData.canLayAll0 (toPs ds) = true := by simpa [toP, PyData.canLay0] using h.lay
  have dep : PyData.depthAll (toPs ds) + 1 ≤ 64 := by simpa [toP, PyData.depth] using h.dep
  intro d hd
  obtain ⟨a, b, c⟩ := Dt.mem h.fl lay (Nat.le_refl _) d hd
  exact ⟨⟨a, b, by omega⟩, by simp only [toP, PyData.depth]; omega⟩

/-! ### comparisons -/
theorem str_beq (a b : List Nat) : ((⟨a.toArray⟩ : Str) == ⟨b.toArray⟩) = decide (a = b) := by
  by_cases h : a = b
  · subst h; simp
  · have : (⟨a.toArray⟩ : Str) ≠ ⟨b.toArray⟩ := fun e => h (by
      have := congrArg (fun z : Str => z.cps.toList) e
      simpa using this)
    simp [h, this]
theorem eqD_str' (a b : List Nat) (S : Sto) : eqD S (.str a) (.str b) = some (decide (a = b)) := rfl
theorem eqD_dt {a b : D} (ha : Dt a) (hb : Dt b) (S : Sto) : eqD S a b = some (PyData.eqv (toP a) (toP b)) := by
  have e : eqLook S a b = some (PyData.eqv (toP a) (toP b)) := by
    unfold eqLook
    rw [ha.look, hb.look]
  unfold eqD
  cases q : eqStr a b with
  | none => exact e
  | some r =>
    obtain ⟨x, y, rfl, rfl, rfl⟩ := eqStr_shape q
    simp only [toP, PyData.eqv, str_beq]
theorem eqD_str {a b : List Nat} (ha : Dt (.str a)) (hb : Dt (.str b)) (S : Sto) : eqD S (.str a) (.str b) = some (decide (a = b)) := rfl
theorem eqD_int (i j : Int) (S : Sto) : eqD S (.int i) (.int j) = some (decide (i = j)) := by
  rw [eqD_dt Dt.int Dt.int]
  simp only [toP, PyData.eqv]
  rfl
theorem resL_look {ds : List D} (h : ∀ d ∈ ds, Dt d) (S : Sto) : resL (look S) ds = some (toPs ds) := by
  induction ds with
  | nil => rfl
  | cons d ds ih =>
    unfold resL
    rw [(h d List.mem_cons_self).look S, ih fun e he => h e (List.mem_cons_of_mem _ he)]
    rfl
theorem inD_tup {a : D} {ds : List D} (ha : Dt a) (hd : ∀ d ∈ ds, Dt d) (S : Sto) : inD S a (.tup ds) = some ((toPs ds).any fun y => PyData.eqv y (toP a)) := by
  have e : signIn a (.tup ds) = none := by
    unfold signIn
    split
    · rename_i h; cases h
    · rfl
  have e2 : inSeq S a (.tup ds) = some ((toPs ds).any fun y => PyData.eqv y (toP a)) := by
    unfold inSeq
    rw [ha.look]
    show (match resL (look S) ds with
      | some ys => some (ys.any fun y => PyData.eqv y (toP a))
      | none => none) = _
    rw [resL_look hd]
  unfold inD
  rw [e]
  dsimp only
  rw [e2]
theorem inD_lst {a : D} {ds : List D} (ha : Dt a) (hd : ∀ d ∈ ds, Dt d) (S : Sto) : inD S a (.lst ds) = some ((toPs ds).any fun y => PyData.eqv y (toP a)) := by
  have e : signIn a (.lst ds) = none := by
    unfold signIn
    split
    · rename_i h; cases h
    · rfl
  have e2 : inSeq S a (.lst ds) = some ((toPs ds).any fun y => PyData.eqv y (toP a)) := by
    unfold inSeq
    rw [ha.look]
    show (match resL (look S) ds with
      | some ys => some (ys.any fun y => PyData.eqv y (toP a))
      | none => none) = _
    rw [resL_look hd]
  unfold inD
  rw [e]
  dsimp only
  rw [e2]
theorem inD_sign (c : Nat) (y : List Nat) (S : Sto) : inD S (.str [c]) (.str y) = some (decide (c ∈ y)) := rfl
/-! ### the store -/
theorem gc_self (S : Sto) (d : D) : gc S d S = S := by unfold gc; split <;> rfl
theorem gc_len {S S' : Sto} (d : D) (h : S'.length = S.length) : gc S d S' = S' := by
  unfold gc
  split
  · rename_i hc
    obtain ⟨t, ht⟩ := hc.2
    have : t = [] := by
      have := congrArg List.length ht
      rw [List.length_append] at this
      exact List.length_eq_zero_iff.mp (by omega)
    rw [this, List.append_nil] at ht
    exact ht
  · rfl
/-! ### comprehensions, loops -/
theorem chk_nil (S : Sto) : Chk [] S := fun p hp => by cases hp
theorem compL_map {step : D → Sto → Out (Option D)} {g : D → D} {S : Sto} : ∀ {xs : List D}, (∀ d ∈ xs, step d S = .ok (some (g d)) S) → compL [] step xs S = .ok (xs.map g) S
  | [], _ => by unfold compL; rw [if_pos (chk_nil S)]; rfl
  | d :: ds, h => by
    unfold compL
    rw [if_pos (chk_nil S), h d List.mem_cons_self]
    dsimp only
    rw [compL_map fun e he => h e (List.mem_cons_of_mem _ he)]
    rfl
theorem compL_filter {step : D → Sto → Out (Option D)} {p : D → Bool} {g : D → D} {S : Sto} : ∀ {xs : List D}, (∀ d ∈ xs, step d S = .ok (if p d then some (g d) else none) S) → compL [] step xs S = .ok ((xs.filter p).map g) S
  | [], _ => by unfold compL; rw [if_pos (chk_nil S)]; rfl
  | d :: ds, h => by
    unfold compL
    rw [if_pos (chk_nil S), h d List.mem_cons_self]
    dsimp only
    rw [compL_filter fun e he => h e (List.mem_cons_of_mem _ he)]
    by_cases q : p d = true
    · simp [q]
    · simp [q]
/-- a call's end -/
noncomputable def endD (S : Sto) (o : SO) : Out D := match o with
  | .ret r S' => .ok r (gc S r S')
  | .nx _ S' => .ok .non (gc S .non S')
  | .exc c fs _ S' => .exc c fs S'
  | _ => .bad
@[simp] theorem endD_ret (S : Sto) (r : D) (S' : Sto) : endD S (.ret r S') = .ok r (gc S r S') := rfl
@[simp] theorem endD_nx (S : Sto) (f : FS) (S' : Sto) : endD S (.nx f S') = .ok .non (gc S .non S') := rfl
@[simp] theorem endD_exc (S : Sto) (c : Nat) (fs : List (Nat × D)) (f : FS) (S' : Sto) : endD S (.exc c fs f S') = .exc c fs S' := rfl
theorem call_of {Φ : Nat → Option Def} {g : Nat} {d : Def} (h : Φ g = some d) (n : Nat) (ds : List D) (S : Sto) (hl : ds.length = d.np ∧ d.np ≤ d.ns) : callN Φ (n + 1) g ds S = endD S (evSs (callN Φ n) d.body (start d ds) S) := by
  conv => lhs; unfold callN
  rw [h]
  dsimp only
  rw [if_pos hl]
  rfl
end SL
set_option Elab.async false
set_option linter.all false
set_option maxRecDepth 100000
set_option maxHeartbeats 1000000
/-! C00: the meaning, step by step. -/
namespace SL
open PySem
@[simp] theorem le_sz (k : Nat) (h : k ≤ 1000) : (k ≤ sz) = True := eq_true (Nat.le_trans h (by decide))
section
variable (c : Nat → List D → Sto → Out D) (f : FS) (S : Sto)
/-- a slot -/
def getS (f : FS) (i : Nat) (S : Sto) : Out D := match f[i]? with
  | some (some d) => .ok d S
  | _ => .bad
@[simp] theorem getS_zero (d : D) : getS (some d :: f) 0 S = .ok d S := rfl
@[simp] theorem getS_succ (x : Option D) (i : Nat) : getS (x :: f) (i + 1) S = getS f i S := by simp [getS]
@[simp] theorem setAt_zero (x : Option D) (d : D) : setAt (x :: f) 0 d = some d :: f := rfl
@[simp] theorem setAt_succ (x : Option D) (i : Nat) (d : D) : setAt (x :: f) (i + 1) d = x :: setAt f i d := rfl
@[simp] theorem ev_var (i : Nat) : evE c (.var i) f S = getS f i S := by unfold evE getS; rfl
@[simp] theorem ev_cst (d : D) : evE c (.cst d) f S = .ok d S := by unfold evE; rfl
@[simp] theorem ev_tup (es : Es) : evE c (.tup es) f S = (evEs c es f S).bind fun ds S => if ds.length ≤ sz then .ok (.tup ds) S else .bad := by conv => lhs; unfold evE
@[simp] theorem ev_lst (es : Es) : evE c (.lst es) f S = (evEs c es f S).bind fun ds S => if ds.length ≤ sz then .ok (.lst ds) S else .bad := by conv => lhs; unfold evE
@[simp] theorem ev_new (es : Es) : evE c (.newL es) f S = (evE c (.lst es) f S).bind fun d S => newD d S := by
  conv => lhs; unfold evE
  conv => rhs; unfold evE
@[simp] theorem ev_newC (es : Es) : evE c (.newC es) f S = (evE c (.blt .list es) f S).bind fun d S => newD d S := by
  conv => lhs; unfold evE
  conv => rhs; unfold evE
@[simp] theorem ev_newP (a b : E) : evE c (.newP a b) f S = (evE c a f S).bind fun x S => (evE c b f S).bind fun y S => catD x y S := by conv => lhs; unfold evE
@[simp] theorem ev_bin (op : Bop) (a b : E) : evE c (.bin op a b) f S = (evE c a f S).bind fun x S => (evE c b f S).bind fun y S => binD op x y S := by conv => lhs; unfold evE
@[simp] theorem ev_cmp (op : Cop) (a b : E) : evE c (.cmp op a b) f S = (evE c a f S).bind fun x S => (evE c b f S).bind fun y S => cmpD op x y S := by conv => lhs; unfold evE
@[simp] theorem ev_isN (a : E) : evE c (.isN a) f S = (evE c a f S).bind fun x S => .ok (.bl (isND x)) S := by conv => lhs; unfold evE
@[simp] theorem ev_notN (a : E) : evE c (.notN a) f S = (evE c a f S).bind fun x S => .ok (.bl (!isND x)) S := by conv => lhs; unfold evE
@[simp] theorem ev_isB (b : Bool) (a : E) : evE c (.isB b a) f S = (evE c a f S).bind fun x S => isBD b x S := by conv => lhs; unfold evE
@[simp] theorem ev_notB (b : Bool) (a : E) : evE c (.notB b a) f S = (evE c a f S).bind fun x S => notBD b x S := by conv => lhs; unfold evE
@[simp] theorem ev_and (a b : E) : evE c (.and a b) f S = (evE c a f S).bind fun x S => andD (evE c b) f x S := by conv => lhs; unfold evE
@[simp] theorem ev_or (a b : E) : evE c (.or a b) f S = (evE c a f S).bind fun x S => orD (evE c b) f x S := by conv => lhs; unfold evE
@[simp] theorem ev_not (a : E) : evE c (.not a) f S = (evE c a f S).bind fun x S => notD x S := by conv => lhs; unfold evE
@[simp] theorem ev_neg (a : E) : evE c (.neg a) f S = (evE c a f S).bind fun x S => negD x S := by conv => lhs; unfold evE
@[simp] theorem ev_ite (t a b : E) : evE c (.ite t a b) f S = (evE c t f S).bind fun x S => iteD (evE c a) (evE c b) f x S := by conv => lhs; unfold evE
@[simp] theorem ev_sub (a i : E) : evE c (.sub a i) f S = (evE c a f S).bind fun x S => (evE c i f S).bind fun y S => subD x y S := by conv => lhs; unfold evE
@[simp] theorem ev_slc (a : E) (lo hi : Oe) : evE c (.slc a lo hi) f S = (evE c a f S).bind fun x S => (evB c lo f S).bind fun l S => (evB c hi f S).bind fun h S => slcD x l h S := by conv => lhs; unfold evE
@[simp] theorem ev_call (g : Nat) (es : Es) : evE c (.call g es) f S = (evEs c es f S).bind fun ds S => c g ds S := by conv => lhs; unfold evE
@[simp] theorem ev_blt (b : Blt) (es : Es) : evE c (.blt b es) f S = (evEs c es f S).bind fun ds S => bltD b ds S := by conv => lhs; unfold evE
@[simp] theorem ev_isi (a : E) (ts : List Ty) : evE c (.isi a ts) f S = (evE c a f S).bind fun x S => isiD ts x S := by conv => lhs; unfold evE
@[simp] theorem ev_mth (m : Mt) (o : E) (es : Es) : evE c (.mth m o es) f S = (evE c o f S).bind fun x S => mthX m (evEs c es) f x S := by conv => lhs; unfold evE
@[simp] theorem ev_comp (elt : E) (tg : Tg) (it : It) (cond : Oe) (own : List Nat) : evE c (.comp elt tg it cond own) f S = (evIt c it f S).bind fun src S => compD tg (evO c cond) (evE c elt) own f src S := by conv => lhs; unfold evE
@[simp] theorem ev_glo0 : evE c (.glo 0) f S = .ok (.str [97, 98, 99, 100, 101, 102, 103, 104]) S := by unfold evE; rfl
@[simp] theorem ev_glo1 : evE c (.glo 1) f S = .ok (.tup [.str [110, 111, 110, 101]]) S := by unfold evE; rfl
@[simp] theorem ev_glo2 : evE c (.glo 2) f S = .ok (.tup [.str [101, 109, 112, 116, 121]]) S := by unfold evE; rfl
@[simp] theorem evs_nil : evEs c .nil f S = .ok [] S := by unfold evEs; rfl
@[simp] theorem evs_cons (e : E) (r : Es) : evEs c (.cons e r) f S = (evE c e f S).bind fun d S => (evEs c r f S).bind fun ds S => .ok (d :: ds) S := by conv => lhs; unfold evEs
@[simp] theorem evo_no : evO c .no f S = .ok none S := by unfold evO; rfl
@[simp] theorem evo_yes (e : E) : evO c (.yes e) f S = (evE c e f S).bind fun d S => .ok (some d) S := by conv => lhs; unfold evO
@[simp] theorem evb_no : evB c .no f S = .ok none S := by unfold evB; rfl
@[simp] theorem evb_yes (e : E) : evB c (.yes e) f S = (evE c e f S).bind fun d S => bndD d S := by conv => lhs; unfold evB
@[simp] theorem evi_val (e : E) : evIt c (.val e) f S = (evE c e f S).bind fun d S => valD d S := by conv => lhs; unfold evIt
@[simp] theorem evi_r1 (a : E) : evIt c (.range1 a) f S = (evE c a f S).bind fun x S => rng1D x S := by conv => lhs; unfold evIt
@[simp] theorem evi_r2 (a b : E) : evIt c (.range2 a b) f S = (evE c a f S).bind fun x S => (evE c b f S).bind fun y S => rng2D x y S := by conv => lhs; unfold evIt
@[simp] theorem evS_asg (tg : Tg) (e : E) : evS c (.asg tg e) f S = (evE c e f S).so f fun d S => asgD tg f d S := by conv => lhs; unfold evS
@[simp] theorem evS_put (o i e : E) : evS c (.put o i e) f S = (evE c e f S).so f fun d S => (evE c o f S).so f fun o S => (evE c i f S).so f fun i S => (putD o i d S).so f fun _ S => .nx f S := by conv => lhs; unfold evS
@[simp] theorem evS_aug (i : Nat) (op : Bop) (e : E) : evS c (.aug i op e) f S = augN op i (evE c e) f S := by conv => lhs; unfold evS
@[simp] theorem evS_augS (o i : E) (op : Bop) (e : E) : evS c (.augS o i op e) f S = (evE c o f S).so f fun o S => (evE c i f S).so f fun i S => (augGet o i S).so f fun a S => (evE c e f S).so f fun b S => (augD op a b S).so f fun d S => (putD o i d S).so f fun _ S => .nx f S := by conv => lhs; unfold evS
@[simp] theorem evS_exp (e : E) : evS c (.exp e) f S = (evE c e f S).so f fun _ S => .nx f S := by conv => lhs; unfold evS
@[simp] theorem evS_ret (e : E) : evS c (.ret e) f S = (evE c e f S).so f fun d S => .ret d S := by conv => lhs; unfold evS
@[simp] theorem evS_ifs (t : E) (a b : Ss) : evS c (.ifs t a b) f S = (evE c t f S).so f fun x S => ifD (evSs c a) (evSs c b) f x S := by conv => lhs; unfold evS
theorem evS_whl (t : E) (a : Ss) : evS c (.whl t a) f S = whl (evE c t) (evSs c a) f S := by conv => lhs; unfold evS
@[simp] theorem evS_fors (tg : Tg) (it : It) (a : Ss) : evS c (.fors tg it a) f S = (evIt c it f S).so f fun src S => forL src.chk (forB tg (evSs c a)) src.xs f S := by conv => lhs; unfold evS
@[simp] theorem evS_brk : evS c .brk f S = .brk f S := by unfold evS; rfl
@[simp] theorem evS_cont : evS c .cont f S = .ct f S := by unfold evS; rfl
@[simp] theorem evS_trys (a : Ss) (x e v : Nat) : evS c (.trys a x e v) f S = tryD x e v (evSs c a f S) := by conv => lhs; unfold evS
@[simp] theorem evSs_nil : evSs c .nil f S = .nx f S := by unfold evSs; rfl
@[simp] theorem evSs_cons (s : SL.S) (r : Ss) : evSs c (.cons s r) f S = thenS (evSs c r) (evS c s f S) := by conv => lhs; unfold evSs
end
@[simp] theorem mtTxt_join : mtTxt .join = true := rfl
@[simp] theorem mtTxt_find : mtTxt .find = true := rfl
@[simp] theorem mtTxt_partition : mtTxt .partition = true := rfl
@[simp] theorem mtTxt_split : mtTxt .split = true := rfl
@[simp] theorem mtTxt_append : mtTxt .append = false := rfl
@[simp] theorem mtTxt_count : mtTxt .count = false := rfl
@[simp] theorem mtTxt_index : mtTxt .index = false := rfl
@[simp] theorem mtTxt_insert : mtTxt .insert = false := rfl
@[simp] theorem mtTxt_pop : mtTxt .pop = false := rfl
@[simp] theorem thenS_nx (u : FS → Sto → SO) (f : FS) (S : Sto) : thenS u (.nx f S) = u f S := rfl
@[simp] theorem thenS_ret (u : FS → Sto → SO) (d : D) (S : Sto) : thenS u (.ret d S) = .ret d S := rfl
@[simp] theorem thenS_exc (u : FS → Sto → SO) (c : Nat) (fs : List (Nat × D)) (f : FS) (S : Sto) : thenS u (.exc c fs f S) = .exc c fs f S := rfl
@[simp] theorem thenS_brk (u : FS → Sto → SO) (f : FS) (S : Sto) : thenS u (.brk f S) = .brk f S := rfl
@[simp] theorem thenS_ct (u : FS → Sto → SO) (f : FS) (S : Sto) : thenS u (.ct f S) = .ct f S := rfl
@[simp] theorem ifD_true (t u : FS → Sto → SO) (f : FS) (S : Sto) : ifD t u f (.bl true) S = t f S := rfl
@[simp] theorem ifD_false (t u : FS → Sto → SO) (f : FS) (S : Sto) : ifD t u f (.bl false) S = u f S := rfl
@[simp] theorem andD_true (t : FS → Sto → Out D) (f : FS) (S : Sto) : andD t f (.bl true) S = t f S := rfl
@[simp] theorem andD_false (t : FS → Sto → Out D) (f : FS) (S : Sto) : andD t f (.bl false) S = .ok (.bl false) S := rfl
@[simp] theorem orD_true (t : FS → Sto → Out D) (f : FS) (S : Sto) : orD t f (.bl true) S = .ok (.bl true) S := rfl
@[simp] theorem orD_false (t : FS → Sto → Out D) (f : FS) (S : Sto) : orD t f (.bl false) S = t f S := rfl
@[simp] theorem notD_bl (b : Bool) (S : Sto) : notD (.bl b) S = .ok (.bl (!b)) S := rfl
@[simp] theorem asg_name (i : Nat) (f : FS) (d : D) (S : Sto) : asgD (.name i) f d S = .nx (setAt f i d) S := rfl
@[simp] theorem bind_name (i : Nat) (f : FS) (d : D) (S : Sto) : bindTg S (.name i) d f = some (setAt f i d) := rfl
@[simp] theorem bnd_int (i : Int) (S : Sto) : bndD (.int i) S = .ok (some i) S := rfl
@[simp] theorem val_tup (ds : List D) (S : Sto) : valD (.tup ds) S = .ok ⟨[], ds⟩ S := rfl
@[simp] theorem val_lst (ds : List D) (S : Sto) : valD (.lst ds) S = .ok ⟨[], ds⟩ S := rfl
theorem val_str (w : List Nat) (h : w.length ≤ sz) (S : Sto) : valD (.str w) S = .ok ⟨[], w.map fun c => .str [c]⟩ S := by simp [valD, srcOf, h]
@[simp] theorem wipe_nil (f : FS) : wipe f [] = f := rfl
@[simp] theorem isi_one' (t : Ty) (d : D) (S : Sto) (b : Bool) (h : isTy S t d = some b) : isiD [t] d S = .ok (.bl b) S := by simp [isiD, isTys, h]
theorem cmp_eq {a b : D} {S : Sto} {r : Bool} (h : eqD S a b = some r) : cmpD .eq a b S = .ok (.bl r) S := by simp [cmpD, h, boolD]
theorem cmp_ne {a b : D} {S : Sto} {r : Bool} (h : eqD S a b = some r) : cmpD .ne a b S = .ok (.bl (!r)) S := by simp [cmpD, h, boolD]
theorem cmp_in {a b : D} {S : Sto} {r : Bool} (h : inD S a b = some r) : cmpD .isin a b S = .ok (.bl r) S := by simp [cmpD, h, boolD]
theorem cmp_notin {a b : D} {S : Sto} {r : Bool} (h : inD S a b = some r) : cmpD .notin a b S = .ok (.bl (!r)) S := by simp [cmpD, h, boolD]
@[simp] theorem cmp_eq_int (i j : Int) (S : Sto) : cmpD .eq (.int i) (.int j) S = .ok (.bl (decide (i = j))) S := cmp_eq (eqD_int i j S)
@[simp] theorem cmp_ne_int (i j : Int) (S : Sto) : cmpD .ne (.int i) (.int j) S = .ok (.bl (!decide (i = j))) S := cmp_ne (eqD_int i j S)
@[simp] theorem cmp_lt_int (i j : Int) (S : Sto) : cmpD .lt (.int i) (.int j) S = .ok (.bl (decide (i < j))) S := rfl
@[simp] theorem cmp_le_int (i j : Int) (S : Sto) : cmpD .le (.int i) (.int j) S = .ok (.bl (decide (i ≤ j))) S := rfl
@[simp] theorem cmp_gt_int (i j : Int) (S : Sto) : cmpD .gt (.int i) (.int j) S = .ok (.bl (decide (j < i))) S := rfl
@[simp] theorem cmp_ge_int (i j : Int) (S : Sto) : cmpD .ge (.int i) (.int j) S = .ok (.bl (decide (j ≤ i))) S := rfl
@[simp] theorem len_tup (ds : List D) (S : Sto) : bltD .len [.tup ds] S = .ok (.int ds.length) S := rfl
@[simp] theorem len_lst (ds : List D) (S : Sto) : bltD .len [.lst ds] S = .ok (.int ds.length) S := rfl
theorem len_str (w : List Nat) (h : w.length ≤ sz) (S : Sto) : bltD .len [.str w] S = .ok (.int w.length) S := by simp [bltD, h]
theorem compD_map {tg : Tg} {tc : FS → Sto → Out (Option D)} {te : FS → Sto → Out D} {own : List Nat} {f : FS} {xs : List D} {S : Sto} (g : D → D) (h : ∀ d ∈ xs, stepD tg tc te (wipe f own) d S = .ok (some (g d)) S) : compD tg tc te own f ⟨[], xs⟩ S = .ok (.lst (xs.map g)) S := by
  unfold compD
  dsimp only
  rw [compL_map h]
theorem compD_filter {tg : Tg} {tc : FS → Sto → Out (Option D)} {te : FS → Sto → Out D} {own : List Nat} {f : FS} {xs : List D} {S : Sto} (p : D → Bool) (g : D → D) (h : ∀ d ∈ xs, stepD tg tc te (wipe f own) d S = .ok (if p d then some (g d) else none) S) : compD tg tc te own f ⟨[], xs⟩ S = .ok (.lst ((xs.filter p).map g)) S := by
  unfold compD
  dsimp only
  rw [compL_filter h]
/-- a turn without a test -/
theorem step_no {tg : Tg} {te : FS → Sto → Out D} {f f' : FS} {d r : D} {S S' : Sto} {c : Nat → List D → Sto → Out D} (h1 : bindTg S tg d f = some f') (h2 : te f' S = .ok r S') : stepD tg (evO c .no) te f d S = .ok (some r) S' := by
  unfold stepD
  rw [h1]
  simp [h2]
/-- a turn with a test -/
theorem step_yes {tg : Tg} {te : FS → Sto → Out D} {t : E} {f f' : FS} {d r : D} {S : Sto} {b : Bool} {c : Nat → List D → Sto → Out D} (h1 : bindTg S tg d f = some f') (h3 : evE c t f' S = .ok (.bl b) S) (h2 : b = true → te f' S = .ok r S) : stepD tg (evO c (.yes t)) te f d S = .ok (if b then some r else none) S := by
  unfold stepD
  rw [h1]
  simp only [evo_yes, h3, Out.ok_bind]
  cases b with
  | true => simp [h2 rfl]
  | false => rfl
theorem bools_map {α : Type} (f : α → Bool) (ds : List α) : bools (ds.map fun d => .bl (f d)) = some (ds.map f) := by
  induction ds with
  | nil => rfl
  | cons d ds ih => simp only [List.map_cons, bools, ih]
theorem all_bl {α : Type} (f : α → Bool) (ds : List α) (S : Sto) : bltD .all [.lst (ds.map fun d => .bl (f d))] S = .ok (.bl (ds.all f)) S := by
  simp [bltD, items, bools_map, List.all_map]
theorem any_bl {α : Type} (f : α → Bool) (ds : List α) (S : Sto) : bltD .any [.lst (ds.map fun d => .bl (f d))] S = .ok (.bl (ds.any f)) S := by
  simp [bltD, items, bools_map, List.any_map]
end SL
set_option Elab.async false
set_option linter.all false
set_option maxRecDepth 100000
set_option maxHeartbeats 1000000
/-! C1: the program's look at a pattern. -/
namespace SL
open PySem
abbrev sNone : List Nat := [110, 111, 110, 101]
abbrev sEmpty : List Nat := [101, 109, 112, 116, 121]
abbrev sSign : List Nat := [115, 105, 103, 110]
abbrev sStar : List Nat := [115, 116, 97, 114]
abbrev sOr : List Nat := [111, 114]
abbrev sThen : List Nat := [116, 104, 101, 110]
abbrev sigs : List Nat := [97, 98, 99, 100, 101, 102, 103, 104]
/-- a word of signs -/
def isW : D → Bool
  | .str w => w.all fun c => decide (c ∈ sigs)
  | _ => false
def one : D → Bool
  | .str w => decide (w.length = 1)
  | _ => false
mutual
/-- a pattern -/
def isP : D → Bool
  | .tup ds => isPt ds
  | _ => false
def isPt : List D → Bool
  | [.str s] => decide (s = sNone) || decide (s = sEmpty)
  | [.str s, y] => (decide (s = sSign) && (isW y && one y)) || (decide (s = sStar) && isP y)
  | [.str s, y, z] => (decide (s = sOr) || decide (s = sThen)) && (isP y && isP z)
  | _ => false
end
structure Phi2 (Φ : Nat → Option Def) : Prop where
  h1 : Φ 1 = some f1_is_right_word
  h2 : Φ 2 = some f2_is_right_pattern
variable {Φ : Nat → Option Def}
theorem dts {x : List Nat} (h : x.all (fun c => decide (c < 1114112)) = true) : Dt (.str x) := Dt.str fun c hc => of_decide_eq_true (List.all_eq_true.mp h c hc)
theorem right_word (P : Phi2 Φ) {n : Nat} {d : D} (hz : ∀ w, d = .str w → w.length ≤ sz) (S : Sto) (hf : flat d = true) : callN Φ (n + 1) 1 [d] S = .ok (.bl (isW d)) S := by
  rw [call_of P.h1 n [d] S ⟨rfl, by decide⟩]
  have go : evSs (callN Φ n) f1_is_right_word.body [some d, none] S = .ret (.bl (isW d)) S := by
    cases d with
    | str w =>
      have cm : compD (.name 1) (evO (callN Φ n) .no) (evE (callN Φ n) (.cmp .isin (.var 1) (.glo 0))) [1] [some (.str w), none] ⟨[], w.map fun c => .str [c]⟩ S = .ok (.lst (w.map fun c => .bl (decide (c ∈ sigs)))) S := by
        rw [compD_map (fun e => .bl (match e with | .str [c] => decide (c ∈ sigs) | _ => false)) fun e he => ?_]
        · rw [List.map_map]; rfl
        · obtain ⟨c, _, rfl⟩ := List.mem_map.mp he
          exact step_no rfl (by simp [wipe, cmp_in (inD_sign _ _ _)])
      simp [f1_is_right_word, isTy, val_str w (hz w rfl), cm, all_bl, isW]
    | ref k => cases hf
    | dct _ _ => cases hf
    | _ => simp [f1_is_right_word, isTy, isW]
  show endD S (evSs (callN Φ n) f1_is_right_word.body [some d, none] S) = _
  rw [go]
  simp [gc_self]
theorem eq_empty {ds : List D} (h : Dt (.tup ds)) (S : Sto) : cmpD .eq (.tup ds) (.tup []) S = .ok (.bl ds.isEmpty) S := by
  rw [cmp_eq (eqD_dt h ⟨rfl, rfl, by decide⟩ S)]
  cases ds <;> simp [toP, toPs, PyData.eqv, PyData.eqvAll]
theorem in_two {s a b : List Nat} (hs : Dt (.str s)) (ha : Dt (.str a)) (hb : Dt (.str b)) (S : Sto) : cmpD .isin (.str s) (.tup [.str a, .str b]) S = .ok (.bl (decide (s = a) || decide (s = b))) S := by
  rw [cmp_in (inD_tup hs (fun d hd => by
    rcases List.mem_cons.mp hd with rfl | hd
    · exact ha
    · rw [List.mem_singleton.mp hd]; exact hb) S)]
  simp only [toPs, toP, List.any_cons, List.any_nil, PyData.eqv, str_beq, Bool.or_false]
  congr 3 <;> (apply decide_eq_decide.mpr; exact eq_comm)
theorem sub0 (e : D) (r : List D) (S : Sto) : subD (.tup (e :: r)) (.int 0) S = .ok e S := by simp [subD, seqOf, placeOf]
theorem sub1 (e y : D) (r : List D) (S : Sto) : subD (.tup (e :: y :: r)) (.int 1) S = .ok y S := by
  have h : (1 : Int) < (r.length : Int) + 1 + 1 := by omega
  simp [subD, seqOf, placeOf, h]
theorem sub2 (e y z : D) (r : List D) (S : Sto) : subD (.tup (e :: y :: z :: r)) (.int 2) S = .ok z S := by
  have h : (2 : Int) < (r.length : Int) + 1 + 1 + 1 := by omega
  simp [subD, seqOf, placeOf, h]
theorem all_two (a b : Bool) (S : Sto) : bltD .all [.lst [.bl a, .bl b]] S = .ok (.bl (a && b)) S := by simp [bltD, items, bools]
theorem slc1 (e : D) (r : List D) (S : Sto) : slcD (.tup (e :: r)) (some 1) none S = .ok (.tup r) S := by simp [slcD, cut, cutAt]
theorem wt_mem {ds : List D} : ∀ d ∈ ds, (toP d).weight ≤ (toP (.tup ds)).weight := by
  induction ds with
  | nil => intro d hd; cases hd
  | cons e r ih =>
    intro d hd
    simp only [toP, toPs, PyData.weight, PyData.weightAll] at ih ⊢
    rcases List.mem_cons.mp hd with rfl | hd
    · omega
    · have := ih d hd; omega
theorem str_wt {w : List Nat} {d : D} (h : (toP d).weight ≤ sz) (e : d = .str w) : w.length ≤ sz := by
  subst e
  simpa [toP, PyData.weight] using h
def tagged (d : D) : Bool := match d with
  | .str _ => true
  | _ => false
theorem isP_untag {e : D} {r : List D} (h : ∀ s, e ≠ .str s) : isP (.tup (e :: r)) = false := by
  unfold isP
  cases r with
  | nil => cases e <;> first | rfl | exact absurd rfl (h _)
  | cons a r => cases r with
    | nil => cases e <;> first | rfl | exact absurd rfl (h _)
    | cons b r => cases r with
      | nil => cases e <;> first | rfl | exact absurd rfl (h _)
      | cons c r => cases e <;> rfl
theorem isTy_tup (ds : List D) (S : Sto) : isTy S .tup (.tup ds) = some true := rfl
theorem isTy_str {e : D} {S : Sto} (hf : flat e = true) (h : ∀ s, e ≠ .str s) : isTy S .str e = some false := by
  cases e <;> first | rfl | exact absurd rfl (h _) | cases hf
theorem right_pattern (P : Phi2 Φ) : ∀ (m : Nat) (d : D), Dt d → (toP d).depth ≤ m → (toP d).weight ≤ sz → ∀ (n : Nat) (S : Sto), callN Φ (n + m + 2) 2 [d] S = .ok (.bl (isP d)) S
  | m, d, hd, hm, hw, n, S => by
    rw [call_of P.h2 (n + m + 1) [d] S ⟨rfl, by decide⟩]
    have dN : Dt (.str sNone) := dts rfl
    have dE : Dt (.str sEmpty) := dts rfl
    have dS : Dt (.str sSign) := dts rfl
    have dT : Dt (.str sStar) := dts rfl
    have dO : Dt (.str sOr) := dts rfl
    have dH : Dt (.str sThen) := dts rfl
    have go : evSs (callN Φ (n + m + 1)) f2_is_right_pattern.body [some d, none] S = .ret (.bl (isP d)) S := by
      cases d with
      | ref k => cases hd.fl
      | dct _ _ => cases hd.fl
      | tup ds =>
        cases ds with
        | nil => simp [f2_is_right_pattern, isTy, eq_empty hd, isP, isPt]
        | cons e r =>
          have he : ∀ x ∈ (e :: r), Dt x ∧ (toP x).depth < (toP (.tup (e :: r))).depth := hd.parts
          have wt : ∀ x ∈ (e :: r), (toP x).weight ≤ sz := fun x hx => Nat.le_trans (wt_mem x hx) hw
          by_cases hstr : ∃ s, e = .str s
          · obtain ⟨s, rfl⟩ := hstr
            have hs : Dt (.str s) := (he _ List.mem_cons_self).1
            by_cases q1 : s = sNone ∨ s = sEmpty
            · have q1' : (decide (s = sNone) || decide (s = sEmpty)) = true := by simpa using q1
              have r1 : isP (.tup (.str s :: r)) = decide (r = []) := by
                unfold isP
                match r with
                | [] => simpa [isPt] using q1
                | [y] => rcases q1 with rfl | rfl <;> simp [isPt]
                | [y, z] => rcases q1 with rfl | rfl <;> simp [isPt]
                | _ :: _ :: _ :: _ => simp [isPt]
              have r2 : decide (((r.length : Int) + 1) = 1) = decide (r = []) := by
                apply decide_eq_decide.mpr
                constructor
                · intro h; exact List.length_eq_zero_iff.mp (by omega)
                · rintro rfl; rfl
              simp only [r1]
              simp [f2_is_right_pattern, isTy, eq_empty hd, sub0, in_two hs dN dE, q1', r2]
            · have q1' : (decide (s = sNone) || decide (s = sEmpty)) = false := by simpa using q1
              by_cases q2 : s = sSign
              · subst q2
                match r, he, wt with
                | [], _, _ => simp [f2_is_right_pattern, isTy, eq_empty hd, sub0, in_two dS dN dE, cmp_eq (eqD_str dS dS S), isP, isPt]
                | [y], he, wt =>
                  have hy := (he y (by simp)).1
                  have rw1 := right_word P (n := n + m) (fun w e => str_wt (wt y (by simp)) e) S hy.fl
                  cases y with
                  | str w =>
                    have hl : w.length ≤ sz := str_wt (wt (.str w) (by simp)) rfl
                    cases q3 : isW (.str w) <;> simp [f2_is_right_pattern, isTy, eq_empty hd, sub0, sub1, in_two dS dN dE, cmp_eq (eqD_str dS dS S), isP, isPt, rw1, q3, len_str w hl, one]
                    omega
                  | ref k => cases hy.fl
                  | dct _ _ => cases hy.fl
                  | _ => simp [f2_is_right_pattern, isTy, eq_empty hd, sub0, sub1, in_two dS dN dE, cmp_eq (eqD_str dS dS S), isP, isPt, rw1, isW]
                | [y, z], _, _ => simp [f2_is_right_pattern, isTy, eq_empty hd, sub0, in_two dS dN dE, cmp_eq (eqD_str dS dS S), isP, isPt]
                | y :: z :: u :: r, _, _ =>
                  have hh : ¬ ((r.length : Int) + 1 + 1 + 1 + 1 = 2) := by omega
                  simp [f2_is_right_pattern, isTy, eq_empty hd, sub0, in_two dS dN dE, cmp_eq (eqD_str dS dS S), isP, isPt, hh]
              · by_cases q3 : s = sStar
                · subst q3
                  match r, he, wt with
                  | [], _, _ => simp [f2_is_right_pattern, isTy, eq_empty hd, sub0, in_two dT dN dE, cmp_eq (eqD_str dT dS S), cmp_eq (eqD_str dT dT S), isP, isPt]
                  | [y], he, wt =>
                    obtain ⟨hy, hdy⟩ := he y (by simp)
                    obtain ⟨m', rfl⟩ : ∃ m', m = m' + 1 := ⟨m - 1, by omega⟩
                    have ih := right_pattern P m' y hy (by omega) (wt y (by simp)) n S
                    have ef : n + (m' + 1) + 1 = n + m' + 2 := by omega
                    rw [ef]
                    simp [f2_is_right_pattern, isTy, eq_empty hd, sub0, sub1, in_two dT dN dE, cmp_eq (eqD_str dT dS S), cmp_eq (eqD_str dT dT S), isP, isPt, ih]
                  | [y, z], _, _ => simp [f2_is_right_pattern, isTy, eq_empty hd, sub0, in_two dT dN dE, cmp_eq (eqD_str dT dS S), cmp_eq (eqD_str dT dT S), isP, isPt]
                  | y :: z :: u :: r, _, _ =>
                    have hh : ¬ ((r.length : Int) + 1 + 1 + 1 + 1 = 2) := by omega
                    simp [f2_is_right_pattern, isTy, eq_empty hd, sub0, in_two dT dN dE, cmp_eq (eqD_str dT dS S), cmp_eq (eqD_str dT dT S), isP, isPt, hh]
                · have q4 : (decide (s = sNone) || decide (s = sEmpty)) = false := q1'
                  have r0 : isP (.tup (.str s :: r)) = match r with
                    | [y, z] => (decide (s = sOr) || decide (s = sThen)) && (isP y && isP z)
                    | _ => false := by
                    match r with
                    | [] => simpa [isP, isPt] using q1
                    | [y] => simp [isP, isPt, q2, q3]
                    | [y, z] => rfl
                    | _ :: _ :: _ :: _ => simp [isP, isPt]
                  rw [r0]
                  have base : evSs (callN Φ (n + m + 1)) f2_is_right_pattern.body [some (.tup (.str s :: r)), none] S = thenS (evSs (callN Φ (n + m + 1)) .nil) ((evE (callN Φ (n + m + 1)) (.and (.cmp .isin (.sub (.var 0) (.cst (.int 0))) (.tup (.cons (.cst (.str [111, 114])) (.cons (.cst (.str [116, 104, 101, 110])) .nil)))) (.and (.cmp .eq (.blt .len (.cons (.var 0) .nil)) (.cst (.int 3))) (.blt .all (.cons (.comp (.call 2 (.cons (.var 1) .nil)) (.name 1) (.val (.slc (.var 0) (.yes (.cst (.int 1))) .no)) .no [1]) .nil)))) [some (.tup (.str s :: r)), none] S).so [some (.tup (.str s :: r)), none] fun d S => .ret d S) := by
                    have n1 : decide (s = sSign) = false := by simpa using q2
                    have n2 : decide (s = sStar) = false := by simpa using q3
                    simp [f2_is_right_pattern, isTy, eq_empty hd, sub0, in_two hs dN dE, q1', cmp_eq (eqD_str hs dS S), cmp_eq (eqD_str hs dT S), n1, n2]
                  have fin : ∀ b, evE (callN Φ (n + m + 1)) (.and (.cmp .isin (.sub (.var 0) (.cst (.int 0))) (.tup (.cons (.cst (.str [111, 114])) (.cons (.cst (.str [116, 104, 101, 110])) .nil)))) (.and (.cmp .eq (.blt .len (.cons (.var 0) .nil)) (.cst (.int 3))) (.blt .all (.cons (.comp (.call 2 (.cons (.var 1) .nil)) (.name 1) (.val (.slc (.var 0) (.yes (.cst (.int 1))) .no)) .no [1]) .nil)))) [some (.tup (.str s :: r)), none] S = .ok (.bl b) S → evSs (callN Φ (n + m + 1)) f2_is_right_pattern.body [some (.tup (.str s :: r)), none] S = .ret (.bl b) S := fun b hb => by rw [base, hb]; rfl
                  apply fin
                  match r, he, wt, hm with
                  | [], _, _, _ => cases q5 : (decide (s = sOr) || decide (s = sThen)) <;> simp [sub0, in_two hs dO dH, q5]
                  | [y], _, _, _ => cases q5 : (decide (s = sOr) || decide (s = sThen)) <;> simp [sub0, in_two hs dO dH, q5]
                  | [y, z], he, wt, hm =>
                    cases q5 : (decide (s = sOr) || decide (s = sThen)) with
                    | false => simp [sub0, in_two hs dO dH, q5]
                    | true =>
                      obtain ⟨hy, hdy⟩ := he y (by simp)
                      obtain ⟨hz, hdz⟩ := he z (by simp)
                      obtain ⟨m', rfl⟩ : ∃ m', m = m' + 1 := ⟨m - 1, by omega⟩
                      have i1 := right_pattern P m' y hy (by omega) (wt y (by simp)) n S
                      have i2 := right_pattern P m' z hz (by omega) (wt z (by simp)) n S
                      have ef : n + (m' + 1) + 1 = n + m' + 2 := by omega
                      rw [ef]
                      have cm : compD (.name 1) (evO (callN Φ (n + m' + 2)) .no) (evE (callN Φ (n + m' + 2)) (.call 2 (.cons (.var 1) .nil))) [1] [some (.tup [.str s, y, z]), none] ⟨[], [y, z]⟩ S = .ok (.lst ([y, z].map fun d => .bl (isP d))) S := by
                        refine compD_map _ fun e he => step_no rfl ?_
                        rcases List.mem_cons.mp he with rfl | he
                        · simp [wipe, i1]
                        · rw [List.mem_singleton.mp he]; simp [wipe, i2]
                      simp [sub0, in_two hs dO dH, q5, slc1, cm, all_two]
                  | y :: z :: u :: r, _, _, _ =>
                    have hh : ¬ ((r.length : Int) + 1 + 1 + 1 + 1 = 3) := by omega
                    cases q5 : (decide (s = sOr) || decide (s = sThen)) <;> simp [sub0, in_two hs dO dH, q5, hh]
          · have hne : ∀ s, e ≠ .str s := fun s h => hstr ⟨s, h⟩
            rw [isP_untag hne]
            simp [f2_is_right_pattern, isTy_tup, eq_empty hd, sub0, isTy_str (he e List.mem_cons_self).1.fl hne]
      | _ => simp [f2_is_right_pattern, isTy, isP]
    show endD S (evSs (callN Φ (n + m + 1)) f2_is_right_pattern.body [some d, none] S) = _
    rw [go]
    simp [gc_self]
  termination_by m => m
end SL
set_option Elab.async false
set_option linter.all false
set_option maxRecDepth 100000
set_option maxHeartbeats 1000000
/-! C2: the law's look at a pattern. -/
namespace SL
open PySem
structure Phi3 (Φ : Nat → Option Def) : Prop where
  h21 : Φ 21 = some f21_L_is_word
  h22 : Φ 22 = some f22_L_is_pattern
variable {Φ : Nat → Option Def}
theorem signs_dt {w : List Nat} (h : ∀ c ∈ w, c < 1114112) : Dt (.lst (w.map fun c => .str [c])) := by
  refine (Dt.tup (fun d hd => ?_) ?_).2
  · obtain ⟨c, hc, rfl⟩ := List.mem_map.mp hd
    exact Dt.str fun x hx => by rw [List.mem_singleton.mp hx]; exact h c hc
  · have : PyData.depthAll (toPs (w.map fun c => D.str [c])) = 0 := by
      induction w with
      | nil => rfl
      | cons a w ih =>
        simp only [List.map_cons, toPs, toP, PyData.depthAll, PyData.depth]
        rw [ih fun c hc => h c (List.mem_cons_of_mem _ hc)]
        rfl
    omega
theorem eq_nil {ds : List D} (h : Dt (.lst ds)) (S : Sto) : cmpD .eq (.lst ds) (.lst []) S = .ok (.bl ds.isEmpty) S := by
  rw [cmp_eq (eqD_dt h ⟨rfl, rfl, by decide⟩ S)]
  cases ds <;> simp [toP, toPs, PyData.eqv, PyData.eqvAll]
theorem law_word (P : Phi3 Φ) {n : Nat} {d : D} (hd : Dt d) (hz : ∀ w, d = .str w → w.length ≤ sz) (S : Sto) : callN Φ (n + 1) 21 [d] S = .ok (.bl (isW d)) S := by
  rw [call_of P.h21 n [d] S ⟨rfl, by decide⟩]
  have go : evSs (callN Φ n) f21_L_is_word.body [some d, none] S = .ret (.bl (isW d)) S := by
    cases d with
    | str w =>
      have cm : compD (.name 1) (evO (callN Φ n) (.yes (.cmp .notin (.var 1) (.cst (.str [97, 98, 99, 100, 101, 102, 103, 104]))))) (evE (callN Φ n) (.var 1)) [1] [some (.str w), none] ⟨[], w.map fun c => .str [c]⟩ S = .ok (.lst ((w.filter fun c => !decide (c ∈ sigs)).map fun c => .str [c])) S := by
        rw [compD_filter (fun e => match e with | .str [c] => !decide (c ∈ sigs) | _ => false) id fun e he => ?_]
        · rw [List.map_id, List.filter_map]; rfl
        · obtain ⟨c, _, rfl⟩ := List.mem_map.mp he
          exact step_yes rfl (by simp [wipe, cmp_notin (inD_sign _ _ _)]) (fun _ => by simp [wipe])
      have dd : Dt (.lst ((w.filter fun c => !decide (c ∈ sigs)).map fun c => .str [c])) := signs_dt fun c hc => hd.codes c (List.mem_filter.mp hc).1
      have e1 : ((w.filter fun c => !decide (c ∈ sigs)).map fun c => D.str [c]).isEmpty = isW (.str w) := by
        rw [isW, Bool.eq_iff_iff]
        simp
        constructor <;> intro h a ha <;> have := h a ha <;> omega
      simp only [f21_L_is_word, evSs_cons, evS_ret, ev_and, ev_isi, ev_var, getS_zero, Out.ok_bind, isi_one' .str (.str w) S true rfl, andD_true, ev_cmp, ev_comp, evi_val, val_str w (hz w rfl), cm, ev_lst, evs_nil]
      simp only [List.length_nil, Nat.zero_le, if_true, eq_nil dd, Out.ok_bind, Out.so_ok, thenS_ret, e1]
    | ref k => cases hd.fl
    | dct _ _ => cases hd.fl
    | _ => simp [f21_L_is_word, isTy, isW]
  show endD S (evSs (callN Φ n) f21_L_is_word.body [some d, none] S) = _
  rw [go]
  simp [gc_self]
theorem in_two' {s a b : List Nat} (hs : Dt (.str s)) (ha : Dt (.str a)) (hb : Dt (.str b)) (S : Sto) : cmpD .notin (.str s) (.lst [.str a, .str b]) S = .ok (.bl (!(decide (s = a) || decide (s = b)))) S := by
  rw [cmp_notin (inD_lst hs (fun d hd => by
    rcases List.mem_cons.mp hd with rfl | hd
    · exact ha
    · rw [List.mem_singleton.mp hd]; exact hb) S)]
  simp only [toPs, toP, List.any_cons, List.any_nil, PyData.eqv, str_beq, Bool.or_false]
  congr 4 <;> (apply decide_eq_decide.mpr; exact eq_comm)
theorem in_leaves {s : List Nat} {r : List D} (h : Dt (.tup (.str s :: r))) (S : Sto) : cmpD .isin (.tup (.str s :: r)) (.lst [.tup [.str sNone], .tup [.str sEmpty]]) S = .ok (.bl ((decide (s = sNone) || decide (s = sEmpty)) && r.isEmpty)) S := by
  have d1 : ∀ x : List Nat, Dt (.str x) → Dt (.tup [.str x]) := fun x hx => (Dt.tup (fun d hd => by rw [List.mem_singleton.mp hd]; exact hx) (by simp [toPs, toP, PyData.depthAll, PyData.depth])).1
  rw [cmp_in (inD_lst h (fun d hd => by
    rcases List.mem_cons.mp hd with rfl | hd
    · exact d1 _ (dts rfl)
    · rw [List.mem_singleton.mp hd]; exact d1 _ (dts rfl)) S)]
  simp only [toPs, toP, List.any_cons, List.any_nil, PyData.eqv, PyData.eqvAll, str_beq, Bool.or_false]
  have e1 : ∀ xs : List D, PyData.eqvAll [] (toPs xs) = xs.isEmpty := fun xs => by cases xs <;> simp [toPs, PyData.eqvAll]
  rw [e1]
  have c1 : decide (sNone = s) = decide (s = sNone) := decide_eq_decide.mpr eq_comm
  have c2 : decide (sEmpty = s) = decide (s = sEmpty) := decide_eq_decide.mpr eq_comm
  rw [c1, c2]
  cases decide (s = sNone) <;> cases decide (s = sEmpty) <;> cases r.isEmpty <;> rfl
theorem law_pattern (P : Phi3 Φ) : ∀ (m : Nat) (d : D), Dt d → (toP d).depth ≤ m → (toP d).weight ≤ sz → ∀ (n : Nat) (S : Sto), callN Φ (n + m + 2) 22 [d] S = .ok (.bl (isP d)) S
  | m, d, hd, hm, hw, n, S => by
    rw [call_of P.h22 (n + m + 1) [d] S ⟨rfl, by decide⟩]
    have dS : Dt (.str sSign) := dts rfl
    have dT : Dt (.str sStar) := dts rfl
    have dO : Dt (.str sOr) := dts rfl
    have dH : Dt (.str sThen) := dts rfl
    have go : evSs (callN Φ (n + m + 1)) f22_L_is_pattern.body [some d] S = .ret (.bl (isP d)) S := by
      cases d with
      | ref k => cases hd.fl
      | dct _ _ => cases hd.fl
      | tup ds =>
        cases ds with
        | nil => simp [f22_L_is_pattern, isTy, eq_empty hd, isP, isPt]
        | cons e r =>
          have he : ∀ x ∈ (e :: r), Dt x ∧ (toP x).depth < (toP (.tup (e :: r))).depth := hd.parts
          have wt : ∀ x ∈ (e :: r), (toP x).weight ≤ sz := fun x hx => Nat.le_trans (wt_mem x hx) hw
          by_cases hstr : ∃ s, e = .str s
          · obtain ⟨s, rfl⟩ := hstr
            have hs : Dt (.str s) := (he _ List.mem_cons_self).1
            cases q1 : (decide (s = sNone) || decide (s = sEmpty)) && r.isEmpty with
            | true =>
              obtain ⟨a1, a2⟩ := and2 q1
              have e1 : r = [] := List.isEmpty_iff.mp a2
              subst e1
              have : isP (.tup [.str s]) = true := by simpa [isP, isPt] using a1
              rw [this]
              simp [f22_L_is_pattern, isTy, eq_empty hd, sub0, in_leaves hd, a1]
            | false =>
              by_cases q2 : s = sSign
              · subst q2
                match r, he, wt with
                | [], _, _ => simp [f22_L_is_pattern, isTy, eq_empty hd, sub0, in_leaves hd, cmp_eq (eqD_str dS dS S), isP, isPt]
                | [y], he, wt =>
                  have hy := (he y (by simp)).1
                  have rw1 := law_word P (n := n + m) hy (fun w e => str_wt (wt y (by simp)) e) S
                  cases y with
                  | str w =>
                    have hl : w.length ≤ sz := str_wt (wt (.str w) (by simp)) rfl
                    cases q3 : isW (.str w) <;> simp [f22_L_is_pattern, isTy, eq_empty hd, sub0, sub1, in_leaves hd, cmp_eq (eqD_str dS dS S), isP, isPt, rw1, q3, len_str w hl, one]
                    omega
                  | ref k => cases hy.fl
                  | dct _ _ => cases hy.fl
                  | _ => simp [f22_L_is_pattern, isTy, eq_empty hd, sub0, sub1, in_leaves hd, cmp_eq (eqD_str dS dS S), isP, isPt, rw1, isW]
                | [y, z], _, _ => simp [f22_L_is_pattern, isTy, eq_empty hd, sub0, in_leaves hd, cmp_eq (eqD_str dS dS S), isP, isPt]
                | y :: z :: u :: r, _, _ =>
                  have hh : ¬ ((r.length : Int) + 1 + 1 + 1 + 1 = 2) := by omega
                  simp [f22_L_is_pattern, isTy, eq_empty hd, sub0, in_leaves hd, cmp_eq (eqD_str dS dS S), isP, isPt, hh]
              · have n1 : decide (s = sSign) = false := by simpa using q2
                by_cases q3 : s = sStar
                · subst q3
                  match r, he, wt with
                  | [], _, _ => simp [f22_L_is_pattern, isTy, eq_empty hd, sub0, in_leaves hd, cmp_eq (eqD_str dT dS S), cmp_eq (eqD_str dT dT S), isP, isPt]
                  | [y], he, wt =>
                    obtain ⟨hy, hdy⟩ := he y (by simp)
                    obtain ⟨m', rfl⟩ : ∃ m', m = m' + 1 := ⟨m - 1, by omega⟩
                    have ih := law_pattern P m' y hy (by omega) (wt y (by simp)) n S
                    have ef : n + (m' + 1) + 1 = n + m' + 2 := by omega
                    rw [ef]
                    simp [f22_L_is_pattern, isTy, eq_empty hd, sub0, sub1, in_leaves hd, cmp_eq (eqD_str dT dS S), cmp_eq (eqD_str dT dT S), isP, isPt, ih]
                  | [y, z], _, _ => simp [f22_L_is_pattern, isTy, eq_empty hd, sub0, in_leaves hd, cmp_eq (eqD_str dT dS S), cmp_eq (eqD_str dT dT S), isP, isPt]
                  | y :: z :: u :: r, _, _ =>
                    have hh : ¬ ((r.length : Int) + 1 + 1 + 1 + 1 = 2) := by omega
                    simp [f22_L_is_pattern, isTy, eq_empty hd, sub0, in_leaves hd, cmp_eq (eqD_str dT dS S), cmp_eq (eqD_str dT dT S), isP, isPt, hh]
                · have n2 : decide (s = sStar) = false := by simpa using q3
                  match r, he, wt, q1 with
                  | [], _, _, q1 =>
                    have q1' : (decide (s = sNone) || decide (s = sEmpty)) = false := by simpa using q1
                    have hp : isP (.tup [.str s]) = false := q1'
                    rw [hp]
                    cases q5 : (decide (s = sOr) || decide (s = sThen)) <;> simp [f22_L_is_pattern, isTy, eq_empty hd, sub0, in_leaves hd, q1', cmp_eq (eqD_str hs dS S), cmp_eq (eqD_str hs dT S), n1, n2, in_two' hs dO dH, q5]
                  | [y], _, _, _ =>
                    have hp : isP (.tup [.str s, y]) = false := by simp [isP, isPt, q2, q3]
                    rw [hp]
                    cases q5 : (decide (s = sOr) || decide (s = sThen)) <;> simp [f22_L_is_pattern, isTy, eq_empty hd, sub0, in_leaves hd, cmp_eq (eqD_str hs dS S), cmp_eq (eqD_str hs dT S), n1, n2, in_two' hs dO dH, q5]
                  | [y, z], he, wt, _ =>
                    have hp : isP (.tup [.str s, y, z]) = ((decide (s = sOr) || decide (s = sThen)) && (isP y && isP z)) := rfl
                    rw [hp]
                    cases q5 : (decide (s = sOr) || decide (s = sThen)) with
                    | false => simp [f22_L_is_pattern, isTy, eq_empty hd, sub0, in_leaves hd, cmp_eq (eqD_str hs dS S), cmp_eq (eqD_str hs dT S), n1, n2, in_two' hs dO dH, q5]
                    | true =>
                      obtain ⟨hy, hdy⟩ := he y (by simp)
                      obtain ⟨hz, hdz⟩ := he z (by simp)
                      obtain ⟨m', rfl⟩ : ∃ m', m = m' + 1 := ⟨m - 1, by omega⟩
                      have i1 := law_pattern P m' y hy (by omega) (wt y (by simp)) n S
                      have i2 := law_pattern P m' z hz (by omega) (wt z (by simp)) n S
                      have ef : n + (m' + 1) + 1 = n + m' + 2 := by omega
                      rw [ef]
                      cases q6 : isP y <;> simp [f22_L_is_pattern, isTy, eq_empty hd, sub0, sub1, sub2, in_leaves hd, cmp_eq (eqD_str hs dS S), cmp_eq (eqD_str hs dT S), n1, n2, in_two' hs dO dH, q5, i1, i2, q6]
                  | y :: z :: u :: r, _, _, _ =>
                    have hh : ¬ ((r.length : Int) + 1 + 1 + 1 + 1 = 3) := by omega
                    have hp : isP (.tup (.str s :: y :: z :: u :: r)) = false := by simp [isP, isPt]
                    rw [hp]
                    cases q5 : (decide (s = sOr) || decide (s = sThen)) <;> simp [f22_L_is_pattern, isTy, eq_empty hd, sub0, in_leaves hd, cmp_eq (eqD_str hs dS S), cmp_eq (eqD_str hs dT S), n1, n2, in_two' hs dO dH, q5, hh]
          · have hne : ∀ s, e ≠ .str s := fun s h => hstr ⟨s, h⟩
            rw [isP_untag hne]
            simp [f22_L_is_pattern, isTy_tup, eq_empty hd, sub0, isTy_str (he e List.mem_cons_self).1.fl hne]
      | _ => simp [f22_L_is_pattern, isTy, isP]
    show endD S (evSs (callN Φ (n + m + 1)) f22_L_is_pattern.body [some d] S) = _
    rw [go]
    simp [gc_self]
  termination_by m => m
end SL
set_option Elab.async false
set_option linter.all false
set_option maxRecDepth 100000
set_option maxHeartbeats 2000000
/-! C3: what a law draws. -/
namespace SL
open PySem
structure PhiD (Φ : Nat → Option Def) : Prop where
  h11 : Φ 11 = some f11_L_mixed
  h12 : Φ 12 = some f12_L_pile
  h13 : Φ 13 = some f13_L_take
  h14 : Φ 14 = some f14_L_letters
  h15 : Φ 15 = some f15_L_leaf
  h16 : Φ 16 = some f16_L_pattern
variable {Φ : Nat → Option Def}
/-! ### lists of the store -/
theorem sub_ref0 {S : Sto} {k : Nat} {d : D} {r : List D} (h : S[k]? = some (.lst (d :: r))) : subD (.ref k) (.int 0) S = .ok d S := by simp [subD, seqOf, items, h, placeOf]
theorem sub_ref1 {S : Sto} {k : Nat} {d e : D} {r : List D} (h : S[k]? = some (.lst (d :: e :: r))) : subD (.ref k) (.int 1) S = .ok e S := by
  have q : (1 : Int) < (r.length : Int) + 1 + 1 := by omega
  simp [subD, seqOf, items, h, placeOf, q]
theorem put_ref0 {S : Sto} {k : Nat} {d x : D} {r : List D} (h : S[k]? = some (.lst (d :: r))) : putD (.ref k) (.int 0) x S = .ok () (S.set k (.lst (x :: r))) := by simp [putD, putL, h, placeOf]
theorem put_ref1 {S : Sto} {k : Nat} {d e x : D} {r : List D} (h : S[k]? = some (.lst (d :: e :: r))) : putD (.ref k) (.int 1) x S = .ok () (S.set k (.lst (d :: x :: r))) := by
  have q : (1 : Int) < (r.length : Int) + 1 + 1 := by omega
  simp [putD, putL, h, placeOf, q]
theorem aug_ref0 {S : Sto} {k : Nat} {d : D} {r : List D} (h : S[k]? = some (.lst (d :: r))) : augGet (.ref k) (.int 0) S = .ok d S := by simp [augGet, items, h, placeOf]
theorem aug_ref1 {S : Sto} {k : Nat} {d e : D} {r : List D} (h : S[k]? = some (.lst (d :: e :: r))) : augGet (.ref k) (.int 1) S = .ok e S := by
  have q : (1 : Int) < (r.length : Int) + 1 + 1 := by omega
  simp [augGet, items, h, placeOf, q]
@[simp] theorem aug_sub (i j : Int) (S : Sto) : augD .sub (.int i) (.int j) S = .ok (.int (i - j)) S := rfl
@[simp] theorem aug_add (i j : Int) (S : Sto) : augD .add (.int i) (.int j) S = .ok (.int (i + j)) S := rfl
@[simp] theorem int_int (i : Int) (S : Sto) : bltD .int [.int i] S = .ok (.int i) S := rfl
@[simp] theorem int_bl (b : Bool) (S : Sto) : bltD .int [.bl b] S = .ok (.int (if b then 1 else 0)) S := rfl
@[simp] theorem bin_add (i j : Int) (S : Sto) : binD .add (.int i) (.int j) S = .ok (.int (i + j)) S := rfl
@[simp] theorem bin_sub (i j : Int) (S : Sto) : binD .sub (.int i) (.int j) S = .ok (.int (i - j)) S := rfl
theorem bin_mod {i j : Int} (h : 0 < j) (S : Sto) : binD .mod (.int i) (.int j) S = .ok (.int (i % j)) S := by simp [binD, h]
theorem bin_fdiv {i j : Int} (h : 0 < j) (h2 : j < 1073741824) (S : Sto) : binD .fdiv (.int i) (.int j) S = .ok (.int (i / j)) S := by simp [binD, h, h2]
theorem bin_mul {i j : Int} (h : small i = true ∨ small j = true) (S : Sto) : binD .mul (.int i) (.int j) S = .ok (.int (i * j)) S := by
  rcases h with h | h <;> simp [binD, h]
theorem small_of {i : Int} (h : -18446744073709551616 < i) (h2 : i < 18446744073709551616) : small i = true := by
  unfold small
  rw [Bool.and_eq_true]
  exact ⟨decide_eq_true h, decide_eq_true h2⟩
theorem gc_ref (S : Sto) (k : Nat) (S' : Sto) : gc S (.ref k) S' = S' := by
  unfold gc
  rw [if_neg]
  rintro ⟨⟨n, h⟩, _⟩
  cases n <;> exact h
/-! ### loops -/
theorem forL_inv {bd : D → FS → Sto → SO} {I : FS → Prop} {S : Sto} : ∀ {xs : List D} {f : FS}, (∀ d ∈ xs, ∀ f, I f → ∃ f', bd d f S = .nx f' S ∧ I f') → I f → ∃ f', forL [] bd xs f S = .nx f' S ∧ I f'
  | [], f, _, hi => ⟨f, by unfold forL; rw [if_pos (chk_nil S)], hi⟩
  | d :: ds, f, h, hi => by
    obtain ⟨f1, e1, i1⟩ := h d List.mem_cons_self f hi
    obtain ⟨f2, e2, i2⟩ := forL_inv (xs := ds) (fun x hx => h x (List.mem_cons_of_mem _ hx)) i1
    refine ⟨f2, ?_, i2⟩
    unfold forL
    rw [if_pos (chk_nil S), e1]
    exact e2
theorem range_ok {i : Int} (h : 0 ≤ i) (h2 : i ≤ 1000) (S : Sto) : rng1D (.int i) S = .ok ⟨[], upFrom 0 i.toNat⟩ S := by
  have e : rangeD 0 i = some ⟨[], upFrom 0 i.toNat⟩ := by
    unfold rangeD
    rw [if_pos (by omega)]
    simp
  simp [rng1D, e]
/-! ### draws -/
theorem take_ok (P : PhiD Φ) {n k : Nat} {p m : Int} {S : Sto} (h : S[k]? = some (.lst [.int p])) (h1 : 0 < m) (h2 : m < 1073741824) : callN Φ (n + 1) 13 [.ref k, .int m] S = .ok (.int (p % m)) (S.set k (.lst [.int (p / m)])) := by
  rw [call_of P.h13 n _ S ⟨rfl, by decide⟩]
  show endD S (evSs (callN Φ n) f13_L_take.body [some (.ref k), some (.int m), none] S) = _
  have go : evSs (callN Φ n) f13_L_take.body [some (.ref k), some (.int m), none] S = .ret (.int (p % m)) (S.set k (.lst [.int (p / m)])) := by
    simp [f13_L_take, sub_ref0 h, bin_mod h1, bin_fdiv h1 h2, put_ref0 h]
  rw [go]
  simp [gc_len]
theorem mixed_ok (P : PhiD Φ) {n : Nat} {a b : Int} {S : Sto} : ∃ v : Int, callN Φ (n + 1) 11 [.int a, .int b] S = .ok (.int v) S := by
  rw [call_of P.h11 n _ S ⟨rfl, by decide⟩]
  have s1 : small (a % 2147483647) = true := small_of (by omega) (by omega)
  have s2 : small 69621 = true := small_of (by omega) (by omega)
  obtain ⟨x, hx⟩ : ∃ x, x = (a % 2147483647 * 48271 + b * 69621 + 1048583) % 2147483629 := ⟨_, rfl⟩
  have s3 : small x = true := small_of (by omega) (by omega)
  obtain ⟨y, hy⟩ : ∃ y, y = (x * x) % 2147483587 := ⟨_, rfl⟩
  have s4 : small y = true := small_of (by omega) (by omega)
  have go : evSs (callN Φ n) f11_L_mixed.body [some (.int a), some (.int b), none] S = .ret (.int (y * (y + 2) % 2147483579)) S := by
    simp [f11_L_mixed, bin_mod, bin_mul (.inl s1), bin_mul (.inr s2), ← hx, bin_mul (.inl s3), ← hy, bin_mul (.inl s4)]
  refine ⟨y * (y + 2) % 2147483579, ?_⟩
  show endD S (evSs (callN Φ n) f11_L_mixed.body [some (.int a), some (.int b), none] S) = _
  rw [go]
  simp only [endD_ret, gc_self]
theorem pow18 (S : Sto) : binD .pow (.int 10) (.int 18) S = .ok (.int 1000000000000000000) S := by
  have : small 10 = true := small_of (by omega) (by omega)
  simp [binD, this]
abbrev t60 : Int := 1000000000000000000000000000000000000000000000000000000000000
abbrev t120 : Int := 1000000000000000000000000000000000000000000000000000000000000000000000000000000000000000000000000000000000000000000000000
abbrev t180 : Int := 1000000000000000000000000000000000000000000000000000000000000000000000000000000000000000000000000000000000000000000000000000000000000000000000000000000000000000000000000000000000000
abbrev t240 : Int := 1000000000000000000000000000000000000000000000000000000000000000000000000000000000000000000000000000000000000000000000000000000000000000000000000000000000000000000000000000000000000000000000000000000000000000000000000000000000000000000000000
theorem pow60 (S : Sto) : binD .pow (.int 10) (.int 60) S = .ok (.int t60) S := by
  have h : small 10 = true := small_of (by omega) (by omega)
  have e : ((10 : Int) ^ (60 : Int).toNat) = t60 := by rfl
  simp only [binD]
  rw [if_pos ⟨by decide, by decide, h⟩, e]
theorem wide_mul {i j k : Int} (h1 : wide i = true) (h2 : wide j = true) (e : i * j = k) (S : Sto) : binD .mul (.int i) (.int j) S = .ok (.int k) S := by
  subst e
  simp only [binD, h1, h2]
  rw [if_pos (by simp)]
theorem w60 : wide t60 = true := by decide +kernel
theorem w120 : wide t120 = true := by decide +kernel
theorem w180 : wide t180 = true := by decide +kernel
theorem m1 (S : Sto) : binD .mul (.int t60) (.int t60) S = .ok (.int t120) S := wide_mul w60 w60 (by rfl) S
theorem m2 (S : Sto) : binD .mul (.int t120) (.int t60) S = .ok (.int t180) S := wide_mul w120 w60 (by rfl) S
theorem m3 (S : Sto) : binD .mul (.int t180) (.int t60) S = .ok (.int t240) S := wide_mul w180 w60 (by rfl) S
theorem p240 : (0 : Int) < t240 := by decide
end SL
set_option Elab.async false
set_option linter.all false
set_option maxRecDepth 100000
set_option maxHeartbeats 2000000
namespace SL
open PySem
variable {Φ : Nat → Option Def}
def pileTail : Ss := (.cons (.ifs (.cmp .ge (.var 2) (.bin .pow (.cst (.int 10)) (.cst (.int 18)))) (.cons (.ret (.newL (.cons (.bin .mod (.blt .int (.cons (.bin .sub (.var 2) (.bin .pow (.cst (.int 10)) (.cst (.int 18)))) .nil)) (.bin .mul (.bin .mul (.bin .mul (.bin .pow (.cst (.int 10)) (.cst (.int 60))) (.bin .pow (.cst (.int 10)) (.cst (.int 60)))) (.bin .pow (.cst (.int 10)) (.cst (.int 60)))) (.bin .pow (.cst (.int 10)) (.cst (.int 60))))) .nil))) .nil) .nil) (.cons (.asg (.name 3) (.cst (.int 0))) (.cons (.fors (.name 4) (.range1 (.cst (.int 24))) (.cons (.asg (.name 3) (.bin .add (.bin .mul (.var 3) (.cst (.int 2147483579))) (.call 11 (.cons (.var 2) (.cons (.bin .add (.bin .add (.bin .mul (.cst (.int 7)) (.var 1)) (.bin .mul (.cst (.int 100)) (.var 4))) (.bin .mul (.var 4) (.var 4))) .nil))))) .nil)) (.cons (.ret (.newL (.cons (.var 3) .nil))) .nil))))
def pileRest : Ss := (.cons (.asg (.name 3) (.cst (.int 0))) (.cons (.fors (.name 4) (.range1 (.cst (.int 24))) (.cons (.asg (.name 3) (.bin .add (.bin .mul (.var 3) (.cst (.int 2147483579))) (.call 11 (.cons (.var 2) (.cons (.bin .add (.bin .add (.bin .mul (.cst (.int 7)) (.var 1)) (.bin .mul (.cst (.int 100)) (.var 4))) (.bin .mul (.var 4) (.var 4))) .nil))))) .nil)) (.cons (.ret (.newL (.cons (.var 3) .nil))) .nil)))
theorem pile_big {c : Nat → List D → Sto → Out D} {f : FS} {cell : Int} {S : Sto} {a b d e : Option D} (hc : 1000000000000000000 ≤ cell) : evSs c pileTail [a, b, some (.int cell), d, e] S = .ret (.ref S.length) (S ++ [.lst [.int ((cell - 1000000000000000000) % t240)]]) := by
  simp only [pileTail, evSs_cons, evS_ifs, ev_cmp, ev_var, ev_bin, ev_cst, getS_zero, getS_succ, Out.ok_bind, pow18, cmp_ge_int, decide_eq_true hc, Out.so_ok, ifD_true, evS_ret, ev_new, ev_lst, evs_cons, evs_nil, ev_blt, bin_sub, int_int, pow60, m1, m2, m3, bin_mod p240, List.length_cons, List.length_nil, Nat.zero_add, le_sz 1 (by decide), if_true, newD, thenS_ret]
theorem pile_small {c : Nat → List D → Sto → Out D} {f : FS} {cell : Int} {S : Sto} {a b d e : Option D} (hc : ¬ 1000000000000000000 ≤ cell) : evSs c pileTail [a, b, some (.int cell), d, e] S = evSs c pileRest [a, b, some (.int cell), d, e] S := by
  have hc' : decide (1000000000000000000 ≤ cell) = false := by simpa using hc
  simp only [pileTail, pileRest, evSs_cons, evS_ifs, ev_cmp, ev_var, ev_bin, ev_cst, getS_zero, getS_succ, Out.ok_bind, pow18, cmp_ge_int, hc', Out.so_ok, ifD_false, evSs_nil, thenS_nx]
def pileTurn : Ss := (.cons (.asg (.name 3) (.bin .add (.bin .mul (.var 3) (.cst (.int 2147483579))) (.call 11 (.cons (.var 2) (.cons (.bin .add (.bin .add (.bin .mul (.cst (.int 7)) (.var 1)) (.bin .mul (.cst (.int 100)) (.var 4))) (.bin .mul (.var 4) (.var 4))) .nil))))) .nil)
theorem pile_turn (P : PhiD Φ) {n : Nat} {a : Option D} {k cell q j : Int} {o : Option D} {S : Sto} (h0 : 0 ≤ j) (h1 : j < 24) : ∃ q' : Int, forB (.name 4) (evSs (callN Φ (n + 1)) pileTurn) (.int j) [a, some (.int k), some (.int cell), some (.int q), o] S = .nx [a, some (.int k), some (.int cell), some (.int q'), some (.int j)] S := by
  obtain ⟨v, hv⟩ := mixed_ok P (n := n) (a := cell) (b := 7 * k + 100 * j + j * j) (S := S)
  have s1 : small 2147483579 = true := small_of (by omega) (by omega)
  have s2 : small 7 = true := small_of (by omega) (by omega)
  have s3 : small 100 = true := small_of (by omega) (by omega)
  have s4 : small j = true := small_of (by omega) (by omega)
  refine ⟨q * 2147483579 + v, ?_⟩
  simp only [pileTurn, forB, bind_name, setAt_succ, setAt_zero, evSs_cons, evS_asg, ev_bin, ev_var, ev_cst, getS_zero, getS_succ, Out.ok_bind, bin_mul (.inr s1), ev_call, evs_cons, evs_nil, bin_mul (.inl s2), bin_mul (.inl s3), bin_mul (.inl s4), bin_add, hv, Out.so_ok, asg_name, thenS_nx, evSs_nil]
theorem pile_rest (P : PhiD Φ) {n : Nat} {a : Option D} {k cell : Int} {d e : Option D} {S : Sto} : ∃ p : Int, evSs (callN Φ (n + 1)) pileRest [a, some (.int k), some (.int cell), d, e] S = .ret (.ref S.length) (S ++ [.lst [.int p]]) := by
  obtain ⟨f', e1, q, o, rfl⟩ := forL_inv (bd := forB (.name 4) (evSs (callN Φ (n + 1)) pileTurn)) (I := fun f => ∃ (q : Int) (o : Option D), f = [a, some (.int k), some (.int cell), some (.int q), o]) (S := S) (xs := upFrom 0 24) (f := [a, some (.int k), some (.int cell), some (.int 0), e])
    (fun x hx f hf => by
      obtain ⟨q, o, rfl⟩ := hf
      obtain ⟨j, hj, rfl⟩ := List.mem_map.mp hx
      have hj' : j < 24 := List.mem_range.mp hj
      obtain ⟨q', e⟩ := pile_turn P (n := n) (a := a) (k := k) (cell := cell) (q := q) (o := o) (S := S) (j := 0 + (j : Int)) (by omega) (by omega)
      exact ⟨_, e, q', _, rfl⟩) ⟨0, e, rfl⟩
  refine ⟨q, ?_⟩
  have r1 : rng1D (.int 24) S = .ok ⟨[], upFrom 0 24⟩ S := range_ok (by decide) (by decide) S
  have e2 : forL [] (forB (.name 4) (evSs (callN Φ (n + 1)) (.cons (.asg (.name 3) (.bin .add (.bin .mul (.var 3) (.cst (.int 2147483579))) (.call 11 (.cons (.var 2) (.cons (.bin .add (.bin .add (.bin .mul (.cst (.int 7)) (.var 1)) (.bin .mul (.cst (.int 100)) (.var 4))) (.bin .mul (.var 4) (.var 4))) .nil))))) .nil))) (upFrom 0 24) [a, some (.int k), some (.int cell), some (.int 0), e] S = .nx [a, some (.int k), some (.int cell), some (.int q), o] S := e1
  simp only [pileRest, evSs_cons, evS_asg, ev_cst, Out.so_ok, asg_name, setAt_succ, setAt_zero, thenS_nx, evS_fors, evi_r1, Out.ok_bind, r1, e2, evS_ret, ev_new, ev_lst, evs_cons, evs_nil, ev_var, getS_zero, getS_succ, List.length_cons, List.length_nil, Nat.zero_add, le_sz 1 (by decide), if_true, newD, thenS_ret]
theorem pile_ok (P : PhiD Φ) {n : Nat} {ns : List Int} {k : Nat} {S : Sto} : ∃ p : Int, callN Φ (n + 2) 12 [.scr ns, .int k] S = .ok (.ref S.length) (S ++ [.lst [.int p]]) := by
  rw [call_of P.h12 (n + 1) _ S ⟨rfl, by decide⟩]
  have go : ∃ cell : Int, evSs (callN Φ (n + 1)) f12_L_pile.body [some (.scr ns), some (.int k), none, none, none] S = evSs (callN Φ (n + 1)) pileTail [some (.scr ns), some (.int k), some (.int cell), none, none] S := by
    have hlen : bltD .len [.scr ns] S = .ok (.int ns.length) S := by simp [bltD, seqOf]
    by_cases hk : k < ns.length
    · have hk' : decide ((k : Int) < (ns.length : Int)) = true := decide_eq_true (by omega)
      have hs : subD (.scr ns) (.int k) S = .ok (.int ns[k]) S := by
        have q : (k : Int) < (ns.length : Int) := by omega
        simp [subD, seqOf, placeOf, q, hk]
      refine ⟨ns[k], ?_⟩
      show thenS (evSs _ (.cons _ pileTail)) (evS _ _ _ S) = _
      simp only [evSs_cons, evS_asg, ev_cst, Out.so_ok, asg_name, setAt_succ, setAt_zero, thenS_nx, evS_ifs, ev_cmp, ev_var, getS_zero, getS_succ, Out.ok_bind, ev_blt, evs_cons, evs_nil, hlen, cmp_lt_int, hk', ifD_true, ev_sub, hs, evSs_nil]
    · have hk' : decide ((k : Int) < (ns.length : Int)) = false := decide_eq_false (by omega)
      refine ⟨0, ?_⟩
      show thenS (evSs _ (.cons _ pileTail)) (evS _ _ _ S) = _
      simp only [evSs_cons, evS_asg, ev_cst, Out.so_ok, asg_name, setAt_succ, setAt_zero, thenS_nx, evS_ifs, ev_cmp, ev_var, getS_zero, getS_succ, Out.ok_bind, ev_blt, evs_cons, evs_nil, hlen, cmp_lt_int, hk', ifD_false, evSs_nil]
  obtain ⟨cell, hcell⟩ := go
  have fin : ∃ p : Int, evSs (callN Φ (n + 1)) pileTail [some (.scr ns), some (.int k), some (.int cell), none, none] S = .ret (.ref S.length) (S ++ [.lst [.int p]]) := by
    by_cases hc : 1000000000000000000 ≤ cell
    · exact ⟨_, pile_big (f := []) hc⟩
    · rw [pile_small (f := []) hc]; exact pile_rest P
  obtain ⟨p, hp⟩ := fin
  refine ⟨p, ?_⟩
  show endD S (evSs (callN Φ (n + 1)) f12_L_pile.body [some (.scr ns), some (.int k), none, none, none] S) = _
  rw [hcell, hp]
  simp only [endD_ret, gc_ref]
end SL
set_option Elab.async false
set_option linter.all false
set_option maxRecDepth 100000
set_option maxHeartbeats 2000000
/-! C4: drawn patterns. -/
namespace SL
open PySem
variable {Φ : Nat → Option Def}
/-- a pattern of height at most h, and its size -/
structure Pt (h : Nat) (x : D) : Prop where
  p : isP x = true
  fl : flat x = true
  lay : (toP x).canLay0 = true
  dep : (toP x).depth ≤ h + 1
  wt : (toP x).weight + 10 ≤ 20 * 2 ^ h
  sh : (toP x).showable = true
  si : (toP x).intsShort 13 = true
theorem Pt.mono {h h' : Nat} {x : D} (q : Pt h x) (le : h ≤ h') : Pt h' x := ⟨q.p, q.fl, q.lay, by have := q.dep; omega, by
  have := q.wt
  have e : 2 ^ h ≤ 2 ^ h' := Nat.pow_le_pow_right (by decide +kernel) le
  omega, q.sh, q.si⟩
theorem pt_leaf {s : List Nat} (hs : s = sNone ∨ s = sEmpty) : Pt 0 (.tup [.str s]) := by
  rcases hs with rfl | rfl
  · exact ⟨by decide +kernel, by decide +kernel, by decide +kernel, by decide +kernel, by decide +kernel, by decide +kernel, by decide +kernel⟩
  · exact ⟨by decide +kernel, by decide +kernel, by decide +kernel, by decide +kernel, by decide +kernel, by decide +kernel, by decide +kernel⟩
theorem pt_sign {c : Nat} (hc : c ∈ sigs) : Pt 0 (.tup [.str sSign, .str [c]]) := by
  have : c = 97 ∨ c = 98 ∨ c = 99 ∨ c = 100 ∨ c = 101 ∨ c = 102 ∨ c = 103 ∨ c = 104 := by simpa using hc
  rcases this with rfl | rfl | rfl | rfl | rfl | rfl | rfl | rfl <;> exact ⟨by decide +kernel, by decide +kernel, by decide +kernel, by decide +kernel, by decide +kernel, by decide +kernel, by decide +kernel⟩
theorem pt_star {h : Nat} {x : D} (q : Pt h x) : Pt (h + 1) (.tup [.str sStar, x]) := by
  have w := q.wt
  have e : 20 * 2 ^ (h + 1) = 2 * (20 * 2 ^ h) := by rw [Nat.pow_succ]; omega
  refine ⟨by simp [isP, isPt, q.p], by simp [flat, flats, q.fl], ?_, ?_, ?_, ?_, ?_⟩
  · have l : PyData.strOk (⟨sStar.toArray⟩ : Str) = true := by decide +kernel
    simp [toP, toPs, PyData.canLay0, PyData.canLayAll0, q.lay, l]
  · simp only [toP, toPs, PyData.depth, PyData.depthAll]
    have := q.dep
    omega
  · simp only [toP, toPs, PyData.weight, PyData.weightAll]
    simp
    omega
  · simp [toP, toPs, PyData.showable, PyData.showableAll, q.sh]
  · simp [toP, toPs, PyData.intsShort, PyData.intsShortAll, q.si]
theorem pt_two {h : Nat} {s : List Nat} {x y : D} (hs : s = sOr ∨ s = sThen) (q : Pt h x) (r : Pt h y) : Pt (h + 1) (.tup [.str s, x, y]) := by
  have w := q.wt
  have w2 := r.wt
  have e : 20 * 2 ^ (h + 1) = 2 * (20 * 2 ^ h) := by rw [Nat.pow_succ]; omega
  have l : PyData.strOk (⟨s.toArray⟩ : Str) = true ∧ s.length ≤ 4 := by rcases hs with rfl | rfl <;> decide +kernel
  refine ⟨by rcases hs with rfl | rfl <;> simp [isP, isPt, q.p, r.p], by simp [flat, flats, q.fl, r.fl], ?_, ?_, ?_, ?_, ?_⟩
  · simp [toP, toPs, PyData.canLay0, PyData.canLayAll0, q.lay, r.lay, l.1]
  · simp only [toP, toPs, PyData.depth, PyData.depthAll]
    have := q.dep
    have := r.dep
    omega
  · simp only [toP, toPs, PyData.weight, PyData.weightAll]
    simp
    have := l.2
    omega
  · simp [toP, toPs, PyData.showable, PyData.showableAll, q.sh, r.sh]
  · simp [toP, toPs, PyData.intsShort, PyData.intsShortAll, q.si, r.si]
/-- what a draw does to the store -/
structure Eff (S S' : Sto) (k j : Nat) : Prop where
  len : S'.length = S.length
  out : ∀ i, i ≠ k → i ≠ j → S'[i]? = S[i]?
  pile : ∃ p : Int, S'[k]? = some (.lst [.int p])
  room : ∃ a b : Int, S'[j]? = some (.lst [.int a, .int b])
theorem Eff.trans {S S1 S2 : Sto} {k j : Nat} (a : Eff S S1 k j) (b : Eff S1 S2 k j) : Eff S S2 k j :=
  ⟨b.len.trans a.len, fun i h1 h2 => (b.out i h1 h2).trans (a.out i h1 h2), b.pile, b.room⟩
theorem Eff.setk {S S1 : Sto} {k j : Nat} {p : Int} (hkj : k ≠ j) (e : Eff S S1 k j) : Eff S (S1.set k (.lst [.int p])) k j := by
  obtain ⟨p0, h0⟩ := e.pile
  have lk : k < S1.length := (List.getElem?_eq_some_iff.mp h0).1
  obtain ⟨a, b, hr⟩ := e.room
  exact ⟨by rw [List.length_set]; exact e.len, fun i h1 h2 => by rw [List.getElem?_set_ne (Ne.symm h1)]; exact e.out i h1 h2, ⟨p, List.getElem?_set_self lk⟩, ⟨a, b, by rw [List.getElem?_set_ne hkj]; exact hr⟩⟩
theorem Eff.setj {S S1 : Sto} {k j : Nat} {a b : Int} (hkj : k ≠ j) (e : Eff S S1 k j) : Eff S (S1.set j (.lst [.int a, .int b])) k j := by
  obtain ⟨p0, h0⟩ := e.pile
  obtain ⟨a0, b0, hr⟩ := e.room
  have lj : j < S1.length := (List.getElem?_eq_some_iff.mp hr).1
  exact ⟨by rw [List.length_set]; exact e.len, fun i h1 h2 => by rw [List.getElem?_set_ne (Ne.symm h2)]; exact e.out i h1 h2, ⟨p0, by rw [List.getElem?_set_ne (Ne.symm hkj)]; exact h0⟩, ⟨a, b, List.getElem?_set_self lj⟩⟩
/-- letters to draw from -/
structure Let (L : List Nat) : Prop where
  ne : L ≠ []
  le : L.length ≤ 8
  sg : ∀ c ∈ L, c ∈ sigs
theorem take_eff (P : PhiD Φ) {n k j : Nat} {m : Int} {S S1 : Sto} (hkj : k ≠ j) (e : Eff S S1 k j) (h1 : 0 < m) (h2 : m < 1073741824) : ∃ (t : Int) (S2 : Sto), callN Φ (n + 1) 13 [.ref k, .int m] S1 = .ok (.int t) S2 ∧ 0 ≤ t ∧ t < m ∧ Eff S S2 k j := by
  obtain ⟨p, hp⟩ := e.pile
  exact ⟨_, _, take_ok P hp h1 h2, Int.emod_nonneg _ (by omega), Int.emod_lt_of_pos _ h1, e.setk hkj⟩
theorem pick0 (x y : D) (S : Sto) : subD (.lst [x, y]) (.int 0) S = .ok x S := by simp [subD, seqOf, items, placeOf]
theorem pick1 (x y : D) (S : Sto) : subD (.lst [x, y]) (.int 1) S = .ok y S := by simp [subD, seqOf, items, placeOf]
theorem leaf_ok (P : PhiD Φ) {n k j : Nat} {L : List Nat} {S0 S : Sto} (hkj : k ≠ j) (e : Eff S0 S k j) (hL : Let L) : ∃ x S', callN Φ (n + 2) 15 [.ref k, .str L, .ref j] S = .ok x S' ∧ Eff S0 S' k j ∧ Pt 0 x := by
  rw [call_of P.h15 (n + 1) _ S ⟨rfl, by decide⟩]
  obtain ⟨w, S1, t1, w0, w9, e1⟩ := take_eff P (n := n) (m := 9) hkj e (by decide) (by decide)
  obtain ⟨a, b, hr⟩ := e1.room
  have e2 : Eff S0 (S1.set j (.lst [.int a, .int (b - 1)])) k j := e1.setj hkj
  obtain ⟨S2, hS2⟩ : ∃ S2, S2 = S1.set j (.lst [.int a, .int (b - 1)]) := ⟨_, rfl⟩
  rw [← hS2] at e2
  have r2 : S2[j]? = some (.lst [.int a, .int (b - 1)]) := by rw [hS2]; exact List.getElem?_set_self (List.getElem?_eq_some_iff.mp hr).1
  have go : ∃ x S', evSs (callN Φ (n + 1)) f15_L_leaf.body [some (.ref k), some (.str L), some (.ref j), none] S = .ret x S' ∧ Eff S0 S' k j ∧ Pt 0 x := by
    by_cases hz : w = 0 ∨ a = 0
    · obtain ⟨t, S3, t3, _, _, e3⟩ := take_eff P (n := n) (m := 5) hkj e2 (by decide) (by decide)
      by_cases ht : t = 0
      · refine ⟨.tup [.str sNone], S3, ?_, e3, pt_leaf (.inl rfl)⟩
        by_cases hw : w = 0
        · simp [f15_L_leaf, t1, aug_ref1 hr, put_ref1 hr, ← hS2, hw, t3, ht, pick0, pick1]
        · have ha : a = 0 := hz.resolve_left hw
          subst ha
          simp [f15_L_leaf, t1, aug_ref1 hr, put_ref1 hr, ← hS2, hw, sub_ref0 r2, t3, ht, pick0, pick1]
      · refine ⟨.tup [.str sEmpty], S3, ?_, e3, pt_leaf (.inr rfl)⟩
        by_cases hw : w = 0
        · simp [f15_L_leaf, t1, aug_ref1 hr, put_ref1 hr, ← hS2, hw, t3, ht, pick0, pick1]
        · have ha : a = 0 := hz.resolve_left hw
          subst ha
          simp [f15_L_leaf, t1, aug_ref1 hr, put_ref1 hr, ← hS2, hw, sub_ref0 r2, t3, ht, pick0, pick1]
    · have hw : ¬ w = 0 := fun q => hz (.inl q)
      have ha : ¬ a = 0 := fun q => hz (.inr q)
      have e3 : Eff S0 (S2.set j (.lst [.int (a - 1), .int (b - 1)])) k j := e2.setj hkj
      obtain ⟨S3, hS3⟩ : ∃ S3, S3 = S2.set j (.lst [.int (a - 1), .int (b - 1)]) := ⟨_, rfl⟩
      rw [← hS3] at e3
      have hl0 : 0 < L.length := List.length_pos_iff.mpr hL.ne
      have hl8 := hL.le
      obtain ⟨t, S4, t4, q0, q1, e4⟩ := take_eff P (n := n) (m := (L.length : Int)) hkj e3 (by omega) (by omega)
      have hi : t.toNat < L.length := by omega
      have hsub : subD (.str L) (.int t) S4 = .ok (.str [L[t.toNat]]) S4 := by
        have q2 : L.length ≤ sz := by show L.length ≤ 16777216; omega
        simp [subD, placeOf, q0, q1, q2, hi]
      refine ⟨.tup [.str sSign, .str [L[t.toNat]]], S4, ?_, e4, pt_sign (hL.sg _ (List.getElem_mem hi))⟩
      have hlen : bltD .len [.str L] S3 = .ok (.int L.length) S3 := len_str L (by show L.length ≤ 16777216; omega) S3
      simp [f15_L_leaf, t1, aug_ref1 hr, put_ref1 hr, ← hS2, hw, sub_ref0 r2, ha, aug_ref0 r2, put_ref0 r2, ← hS3, hlen, t4, hsub]
  obtain ⟨x, S', h1, h2, h3⟩ := go
  refine ⟨x, S', ?_, h2, h3⟩
  show endD S (evSs (callN Φ (n + 1)) f15_L_leaf.body [some (.ref k), some (.str L), some (.ref j), none] S) = _
  rw [h1]
  simp only [endD_ret]
  rw [gc_len]
  rw [h2.len, e.len]
theorem pattern_ok (P : PhiD Φ) {k j : Nat} {L : List Nat} (hkj : k ≠ j) (hL : Let L) : ∀ (d n : Nat) (S0 S : Sto), Eff S0 S k j → ∃ x S', callN Φ (n + d + 3) 16 [.ref k, .str L, .ref j, .int d] S = .ok x S' ∧ Eff S0 S' k j ∧ Pt d x
  | d, n, S0, S, e => by
    rw [call_of P.h16 (n + d + 2) _ S ⟨rfl, by decide⟩]
    obtain ⟨w, S1, t1, w0, w9, e1⟩ := take_eff P (n := n + d + 1) (m := 10) hkj e (by decide) (by decide)
    obtain ⟨a, b, hr⟩ := e1.room
    have go : ∃ x S', evSs (callN Φ (n + d + 2)) f16_L_pattern.body [some (.ref k), some (.str L), some (.ref j), some (.int d), none, none] S = .ret x S' ∧ Eff S0 S' k j ∧ Pt d x := by
      by_cases hz : d = 0 ∨ b < 3 ∨ w < 2
      · obtain ⟨x, S2, l2, e2, p2⟩ := leaf_ok P (n := n + d) hkj e1 hL
        refine ⟨x, S2, ?_, e2, p2.mono (Nat.zero_le d)⟩
        by_cases h0 : d = 0
        · subst h0
          simp [f16_L_pattern, t1, l2]
        · have h0' : ¬ (d : Int) = 0 := by omega
          by_cases h1 : b < 3
          · simp [f16_L_pattern, t1, h0, h0', sub_ref1 hr, h1, l2]
          · have h2 : w < 2 := by omega
            simp [f16_L_pattern, t1, h0, h0', sub_ref1 hr, h1, h2, l2]
      · have h0' : ¬ (d : Int) = 0 := by omega
        have h1 : ¬ b < 3 := by omega
        have h2 : ¬ w < 2 := by omega
        obtain ⟨d', rfl⟩ : ∃ d', d = d' + 1 := ⟨d - 1, by omega⟩
        have hd : (d' : Int) + 1 - 1 = (d' : Int) := by omega
        have h0'' : ¬ ((d' : Int) + 1 = 0) := by omega
        have ef : n + (d' + 1) + 2 = n + d' + 3 := by omega
        rw [ef] at t1 ⊢
        have e2 : Eff S0 (S1.set j (.lst [.int a, .int (b - 1)])) k j := e1.setj hkj
        obtain ⟨S2, hS2⟩ : ∃ S2, S2 = S1.set j (.lst [.int a, .int (b - 1)]) := ⟨_, rfl⟩
        rw [← hS2] at e2
        have r2 : S2[j]? = some (.lst [.int a, .int (b - 1)]) := by rw [hS2]; exact List.getElem?_set_self (List.getElem?_eq_some_iff.mp hr).1
        by_cases h5 : w < 5
        · obtain ⟨x, S3, c3, e3, p3⟩ := pattern_ok P hkj hL d' n S0 S2 e2
          refine ⟨.tup [.str sStar, x], S3, ?_, e3, pt_star p3⟩
          simp [f16_L_pattern, t1, h0'', sub_ref1 hr, h1, h2, aug_ref1 hr, put_ref1 hr, ← hS2, h5, hd, c3]
        · have e3 : Eff S0 (S2.set j (.lst [.int a, .int (b - 1 - 1)])) k j := e2.setj hkj
          obtain ⟨S3, hS3⟩ : ∃ S3, S3 = S2.set j (.lst [.int a, .int (b - 1 - 1)]) := ⟨_, rfl⟩
          rw [← hS3] at e3
          obtain ⟨x, S4, c4, e4, p4⟩ := pattern_ok P hkj hL d' n S0 S3 e3
          obtain ⟨a', b', r4⟩ := e4.room
          have e5 : Eff S0 (S4.set j (.lst [.int a', .int (b' + 1)])) k j := e4.setj hkj
          obtain ⟨S5, hS5⟩ : ∃ S5, S5 = S4.set j (.lst [.int a', .int (b' + 1)]) := ⟨_, rfl⟩
          rw [← hS5] at e5
          obtain ⟨y, S6, c6, e6, p6⟩ := pattern_ok P hkj hL d' n S0 S5 e5
          have hm : w % 2 = 0 ∨ w % 2 = 1 := by omega
          rcases hm with hm | hm
          · refine ⟨.tup [.str sOr, x, y], S6, ?_, e6, pt_two (.inl rfl) p4 p6⟩
            simp [f16_L_pattern, t1, h0'', sub_ref1 hr, h1, h2, aug_ref1 hr, put_ref1 hr, ← hS2, h5, aug_ref1 r2, put_ref1 r2, ← hS3, hd, c4, aug_ref1 r4, put_ref1 r4, ← hS5, bin_mod, hm, pick0, c6]
          · refine ⟨.tup [.str sThen, x, y], S6, ?_, e6, pt_two (.inr rfl) p4 p6⟩
            simp [f16_L_pattern, t1, h0'', sub_ref1 hr, h1, h2, aug_ref1 hr, put_ref1 hr, ← hS2, h5, aug_ref1 r2, put_ref1 r2, ← hS3, hd, c4, aug_ref1 r4, put_ref1 r4, ← hS5, bin_mod, hm, pick1, c6]
    obtain ⟨x, S', h1, h2, h3⟩ := go
    refine ⟨x, S', ?_, h2, h3⟩
    show endD S (evSs (callN Φ (n + d + 2)) f16_L_pattern.body [some (.ref k), some (.str L), some (.ref j), some (.int d), none, none] S) = _
    rw [h1]
    simp only [endD_ret]
    rw [gc_len]
    rw [h2.len, e.len]
  termination_by d => d
end SL
set_option Elab.async false
set_option linter.all false
set_option maxRecDepth 100000
set_option maxHeartbeats 2000000
/-! C5: letters, draws; the program's answers on patterns. -/
namespace SL
open PySem
variable {Φ : Nat → Option Def}
theorem pick7 (a b c d e f g : D) {t : Int} (h0 : 0 ≤ t) (h7 : t < 7) (S : Sto) : ∃ x ∈ [a, b, c, d, e, f, g], subD (.lst [a, b, c, d, e, f, g]) (.int t) S = .ok x S := by
  have : t = 0 ∨ t = 1 ∨ t = 2 ∨ t = 3 ∨ t = 4 ∨ t = 5 ∨ t = 6 := by omega
  rcases this with rfl | rfl | rfl | rfl | rfl | rfl | rfl
  · exact ⟨a, by simp, by simp [subD, seqOf, items, placeOf]⟩
  · exact ⟨b, by simp, by simp [subD, seqOf, items, placeOf]⟩
  · exact ⟨c, by simp, by simp [subD, seqOf, items, placeOf]⟩
  · exact ⟨d, by simp, by simp [subD, seqOf, items, placeOf]⟩
  · exact ⟨e, by simp, by simp [subD, seqOf, items, placeOf]⟩
  · exact ⟨f, by simp, by simp [subD, seqOf, items, placeOf]⟩
  · exact ⟨g, by simp, by simp [subD, seqOf, items, placeOf]⟩
theorem let_of {L : List Nat} (h : (L != [] && decide (L.length ≤ 8) && L.all fun c => decide (c ∈ sigs)) = true) : Let L := by
  simp only [Bool.and_eq_true, bne_iff_ne, decide_eq_true_eq, List.all_eq_true] at h
  exact ⟨h.1.1, h.1.2, h.2⟩
theorem letters_ok (P : PhiD Φ) {n k : Nat} {p : Int} {S : Sto} (h : S[k]? = some (.lst [.int p])) : ∃ L, callN Φ (n + 2) 14 [.ref k] S = .ok (.str L) (S.set k (.lst [.int (p / 7)])) ∧ Let L := by
  rw [call_of P.h14 (n + 1) _ S ⟨rfl, by decide⟩]
  have t := take_ok P (n := n) h (show (0 : Int) < 7 by decide) (by decide)
  obtain ⟨x, hx, hs⟩ := pick7 (.str [97]) (.str [97, 98]) (.str [97, 98]) (.str [97, 98]) (.str [97, 98, 99]) (.str [98, 104]) (.str [97, 99, 103]) (Int.emod_nonneg p (show (7 : Int) ≠ 0 by decide)) (Int.emod_lt_of_pos p (by decide)) (S.set k (.lst [.int (p / 7)]))
  have hL : ∃ L, x = .str L ∧ Let L := by
    simp only [List.mem_cons, List.not_mem_nil, or_false] at hx
    rcases hx with rfl | rfl | rfl | rfl | rfl | rfl | rfl <;> exact ⟨_, rfl, let_of (by decide)⟩
  obtain ⟨L, rfl, hL⟩ := hL
  refine ⟨L, ?_, hL⟩
  show endD S (evSs (callN Φ (n + 1)) f14_L_letters.body [some (.ref k)] S) = _
  have go : evSs (callN Φ (n + 1)) f14_L_letters.body [some (.ref k)] S = .ret (.str L) (S.set k (.lst [.int (p / 7)])) := by
    simp [f14_L_letters, t, hs]
  rw [go]
  simp [gc_len]
theorem drawn_ok (P : PhiD Φ) (h17 : Φ 17 = some f17_L_drawn) {n k : Nat} {p : Int} {L : List Nat} {S : Sto} (h : S[k]? = some (.lst [.int p])) (hL : Let L) : ∃ x S', callN Φ (n + 8) 17 [.ref k, .str L, .int 8] S = .ok x S' ∧ Pt 4 x := by
  rw [call_of h17 (n + 7) _ S ⟨rfl, by decide⟩]
  have lk : k < S.length := (List.getElem?_eq_some_iff.mp h).1
  have hkj : k ≠ S.length := by omega
  obtain ⟨S1, hS1⟩ : ∃ S1, S1 = S ++ [Ob.lst [.int 8, .int 26]] := ⟨_, rfl⟩
  have k1 : S1[k]? = some (.lst [.int p]) := by rw [hS1, List.getElem?_append_left lk]; exact h
  have j1 : S1[S.length]? = some (.lst [.int 8, .int 26]) := by rw [hS1]; simp
  have e0 : Eff S1 S1 k S.length := ⟨rfl, fun _ _ _ => rfl, ⟨p, k1⟩, ⟨8, 26, j1⟩⟩
  obtain ⟨t, S2, t2, q0, q4, e2⟩ := take_eff P (n := n + 6) (m := 4) hkj e0 (by decide) (by decide)
  obtain ⟨d, hd⟩ : ∃ d : Nat, (d : Int) = 1 + t ∧ d ≤ 4 := ⟨(1 + t).toNat, by omega, by omega⟩
  obtain ⟨x, S3, c3, e3, p3⟩ := pattern_ok P hkj hL d (n + (4 - d)) S1 S2 e2
  have ef : n + (4 - d) + d + 3 = n + 7 := by omega
  rw [ef, hd.1] at c3
  have go : evSs (callN Φ (n + 7)) f17_L_drawn.body [some (.ref k), some (.str L), some (.int 8)] S = .ret x S3 := by
    have s3 : small 3 = true := small_of (by omega) (by omega)
    simp [f17_L_drawn, bin_mul (.inl s3), newD, ← hS1, t2, c3]
  refine ⟨x, gc S x S3, ?_, p3.mono hd.2⟩
  show endD S (evSs (callN Φ (n + 7)) f17_L_drawn.body [some (.ref k), some (.str L), some (.int 8)] S) = _
  rw [go]
  rfl
/-! ### the parts of a pattern -/
theorem isP_cases {x : D} (h : isP x = true) : (∃ s, (s = sNone ∨ s = sEmpty) ∧ x = .tup [.str s]) ∨ (∃ c ∈ sigs, x = .tup [.str sSign, .str [c]]) ∨ (∃ y, isP y = true ∧ x = .tup [.str sStar, y]) ∨ ∃ s y z, (s = sOr ∨ s = sThen) ∧ isP y = true ∧ isP z = true ∧ x = .tup [.str s, y, z] := by
  cases x with
  | tup ds =>
    have h : isPt ds = true := h
    match ds, h with
    | [.str s], h => left; exact ⟨s, by simpa [isPt] using h, rfl⟩
    | [.str s, y], h =>
      have h : ((decide (s = sSign) && (isW y && one y)) || (decide (s = sStar) && isP y)) = true := h
      rw [Bool.or_eq_true] at h
      rcases h with h | h
      · obtain ⟨h1, h2⟩ := and2 h
        obtain ⟨h2, h3⟩ := and2 h2
        have e := of_decide_eq_true h1
        subst e
        cases y with
        | str w =>
          have hl : w.length = 1 := of_decide_eq_true h3
          match w, hl with
          | [c], _ =>
            have hc : ([c].all fun c => decide (c ∈ sigs)) = true := h2
            right; left
            exact ⟨c, by simpa using hc, rfl⟩
        | _ => cases h2
      · obtain ⟨h1, h2⟩ := and2 h
        have e := of_decide_eq_true h1
        subst e
        right; right; left
        exact ⟨y, h2, rfl⟩
    | [.str s, y, z], h =>
      have h : ((decide (s = sOr) || decide (s = sThen)) && (isP y && isP z)) = true := h
      obtain ⟨h1, h2⟩ := and2 h
      obtain ⟨h2, h3⟩ := and2 h2
      right; right; right
      exact ⟨s, y, z, by simpa using h1, h2, h3, rfl⟩
  | _ => cases h
structure Phi6 (Φ : Nat → Option Def) : Prop where
  h3 : Φ 3 = some f3_look_at_pattern
  h6 : Φ 6 = some f6_signs_in
  h7 : Φ 7 = some f7_signs_once
  h8 : Φ 8 = some f8_signs_of
  h9 : Φ 9 = some f9_empties
  h10 : Φ 10 = some f10_has_empty
theorem join0 (S : Sto) (c : Nat → List D → Sto → Out D) : mthD .join (.str []) [.lst []] S = .ok (.str []) S := rfl
theorem signs_in_ok (Q : Phi6 Φ) : ∀ (m : Nat) (x : D), isP x = true → (toP x).depth ≤ m → m ≤ 20 → ∀ (n : Nat) (S : Sto), ∃ w, callN Φ (n + m + 1) 6 [x] S = .ok (.str w) S ∧ w.length ≤ 2 ^ m
  | m, x, hp, hm, hm20, n, S => by
    rw [call_of Q.h6 (n + m) _ S ⟨rfl, by decide⟩]
    have pw : 1 ≤ 2 ^ m := Nat.one_le_two_pow
    have go : ∃ w, evSs (callN Φ (n + m)) f6_signs_in.body [some x, none] S = .ret (.str w) S ∧ w.length ≤ 2 ^ m := by
      rcases isP_cases hp with ⟨s, hs, rfl⟩ | ⟨c, hc, rfl⟩ | ⟨y, hy, rfl⟩ | ⟨s, y, z, hs, hy, hz, rfl⟩
      · refine ⟨[], ?_, by simp⟩
        have cm : compD (.name 1) (evO (callN Φ (n + m)) .no) (evE (callN Φ (n + m)) (.call 6 (.cons (.var 1) .nil))) [1] [some (.tup [.str s]), none] ⟨[], []⟩ S = .ok (.lst []) S := compD_map id fun d hd => by cases hd
        have ne : decide (s = sSign) = false := by rcases hs with rfl | rfl <;> rfl
        simp [f6_signs_in, sub0, cmp_eq (eqD_str' _ _ S), ne, slc1, cm, mthX, recv, mtTxt, mthD, seqOf, items, texts, joined]
      · exact ⟨[c], by simp [f6_signs_in, sub0, sub1, cmp_eq (eqD_str' _ _ S)], by simpa using pw⟩
      · obtain ⟨m', rfl⟩ : ∃ m', m = m' + 1 := ⟨m - 1, by
          simp only [toP, toPs, PyData.depth, PyData.depthAll] at hm; omega⟩
        have hd : (toP y).depth ≤ m' := by simp only [toP, toPs, PyData.depth, PyData.depthAll] at hm; omega
        obtain ⟨w, hw, hl⟩ := signs_in_ok Q m' y hy hd (by omega) n S
        have cm : compD (.name 1) (evO (callN Φ (n + (m' + 1))) .no) (evE (callN Φ (n + (m' + 1))) (.call 6 (.cons (.var 1) .nil))) [1] [some (.tup [.str sStar, y]), none] ⟨[], [y]⟩ S = .ok (.lst [.str w]) S := compD_map (fun _ => .str w) fun d hd => by
          rw [List.mem_singleton.mp hd]
          exact step_no rfl (by simp [wipe]; exact hw)
        have hsz : w.length ≤ sz := by
          have : 2 ^ m' ≤ 2 ^ 20 := Nat.pow_le_pow_right (by decide) (by omega)
          show w.length ≤ 16777216
          omega
        refine ⟨w, by simp [f6_signs_in, sub0, cmp_eq (eqD_str' _ _ S), slc1, cm, mthX, recv, mtTxt, mthD, seqOf, items, texts, joined, hsz], ?_⟩
        rw [Nat.pow_succ]; omega
      · obtain ⟨m', rfl⟩ : ∃ m', m = m' + 1 := ⟨m - 1, by
          simp only [toP, toPs, PyData.depth, PyData.depthAll] at hm; omega⟩
        have hd : (toP y).depth ≤ m' := by simp only [toP, toPs, PyData.depth, PyData.depthAll] at hm; omega
        have hd2 : (toP z).depth ≤ m' := by simp only [toP, toPs, PyData.depth, PyData.depthAll] at hm; omega
        obtain ⟨w, hw, hl⟩ := signs_in_ok Q m' y hy hd (by omega) n S
        obtain ⟨v, hv, hl2⟩ := signs_in_ok Q m' z hz hd2 (by omega) n S
        have cm : ∃ g : D → D, g y = .str w ∧ g z = .str v := by
          classical
          by_cases q : y = z
          · subst q
            have : w = v := by rw [hw] at hv; cases hv; rfl
            subst this
            exact ⟨fun _ => .str w, rfl, rfl⟩
          · exact ⟨fun d => if d = y then .str w else .str v, if_pos rfl, if_neg (Ne.symm q)⟩
        obtain ⟨g, g1, g2⟩ := cm
        have cm : compD (.name 1) (evO (callN Φ (n + (m' + 1))) .no) (evE (callN Φ (n + (m' + 1))) (.call 6 (.cons (.var 1) .nil))) [1] [some (.tup [.str s, y, z]), none] ⟨[], [y, z]⟩ S = .ok (.lst [.str w, .str v]) S := by
          rw [compD_map g fun d hd => ?_]
          · simp [g1, g2]
          · rcases List.mem_cons.mp hd with rfl | hd
            · exact step_no rfl (by simp [wipe, g1]; exact hw)
            · rw [List.mem_singleton.mp hd]
              exact step_no rfl (by simp [wipe, g2]; exact hv)
        have hsz : w.length + v.length ≤ sz := by
          have : 2 ^ m' ≤ 2 ^ 20 := Nat.pow_le_pow_right (by decide) (by omega)
          show w.length + v.length ≤ 16777216
          omega
        have ne : decide (s = sSign) = false := by rcases hs with rfl | rfl <;> rfl
        refine ⟨w ++ v, by simp [f6_signs_in, sub0, cmp_eq (eqD_str' _ _ S), ne, slc1, cm, mthX, recv, mtTxt, mthD, seqOf, items, texts, joined, hsz], ?_⟩
        rw [Nat.pow_succ, List.length_append]; omega
    obtain ⟨w, h1, h2⟩ := go
    refine ⟨w, ?_, h2⟩
    show endD S (evSs (callN Φ (n + m)) f6_signs_in.body [some x, none] S) = _
    rw [h1]
    simp [gc_self]
  termination_by m => m
end SL
set_option Elab.async false
set_option linter.all false
set_option maxRecDepth 100000
set_option maxHeartbeats 2000000
/-! C6: the program's two questions, and how a law asks them. -/
namespace SL
open PySem
variable {Φ : Nat → Option Def}
theorem texts_map (w : List Nat) : texts (w.map fun c => D.str [c]) = some (w.map fun c => [c]) := by
  induction w with
  | nil => rfl
  | cons a w ih => simp only [List.map_cons, texts, ih]
theorem once_ok (Q : Phi6 Φ) {n : Nat} {w : List Nat} {S : Sto} : ∃ v, callN Φ (n + 1) 7 [.str w] S = .ok (.str v) S := by
  rw [call_of Q.h7 n _ S ⟨rfl, by decide⟩]
  have cm : compD (.name 1) (evO (callN Φ n) (.yes (.cmp .isin (.var 1) (.var 0)))) (evE (callN Φ n) (.var 1)) [1] [some (.str w), none] ⟨[], sigs.map fun c => .str [c]⟩ S = .ok (.lst ((sigs.filter fun c => decide (c ∈ w)).map fun c => .str [c])) S := by
    rw [compD_filter (fun e => match e with | .str [c] => decide (c ∈ w) | _ => false) id fun e he => ?_]
    · rw [List.map_id, List.filter_map]; rfl
    · obtain ⟨c, _, rfl⟩ := List.mem_map.mp he
      exact step_yes rfl (by simp [wipe, cmp_in (inD_sign _ _ _)]) (fun _ => by simp [wipe])
  have hl : ((sigs.filter fun c => decide (c ∈ w)).map fun c => [c]).length ≤ 8 := by
    rw [List.length_map]
    exact List.length_filter_le _ _
  have hs : (((sigs.filter fun c => decide (c ∈ w)).map fun c => [c]).map List.length).sum ≤ 8 := by
    have : ∀ l : List Nat, ((l.map fun c => [c]).map List.length).sum = l.length := fun l => by
      induction l with
      | nil => rfl
      | cons a l ih => simp only [List.map_cons, List.sum_cons, ih, List.length_cons, List.length_nil]; omega
    rw [this]
    exact List.length_filter_le _ _
  have jn : mthD .join (.str []) [.lst ((sigs.filter fun c => decide (c ∈ w)).map fun c => .str [c])] S = .ok (.str (joined [] ((sigs.filter fun c => decide (c ∈ w)).map fun c => [c]))) S := by
    simp only [mthD, seqOf, items, texts_map]
    rw [if_pos]
    simp only [List.length_nil, Nat.mul_zero, Nat.add_zero]
    show _ ≤ 16777216
    omega
  have hv : valD (.str [97, 98, 99, 100, 101, 102, 103, 104]) S = .ok ⟨[], sigs.map fun c => .str [c]⟩ S := val_str _ (by decide) S
  refine ⟨joined [] ((sigs.filter fun c => decide (c ∈ w)).map fun c => [c]), ?_⟩
  show endD S (evSs (callN Φ n) f7_signs_once.body [some (.str w), none] S) = _
  have go : evSs (callN Φ n) f7_signs_once.body [some (.str w), none] S = .ret (.str (joined [] ((sigs.filter fun c => decide (c ∈ w)).map fun c => [c]))) S := by
    simp only [f7_signs_once, evSs_cons, evS_ret, ev_mth, ev_cst, Out.ok_bind, mthX, recv, mtTxt, if_true, evs_cons, evs_nil, ev_comp, evi_val, ev_glo0, hv, cm, jn, Out.so_ok, thenS_ret]
  rw [go]
  simp only [endD_ret, gc_self]
theorem empties_ok (Q : Phi6 Φ) : ∀ (m : Nat) (x : D), isP x = true → (toP x).depth ≤ m → ∀ (n : Nat) (S : Sto), ∃ b, callN Φ (n + m + 1) 9 [x] S = .ok (.bl b) S
  | m, x, hp, hm, n, S => by
    rw [call_of Q.h9 (n + m) _ S ⟨rfl, by decide⟩]
    have dE : Dt (.str sEmpty) := dts rfl
    have dT : Dt (.str sStar) := dts rfl
    have go : ∃ b, evSs (callN Φ (n + m)) f9_empties.body [some x] S = .ret (.bl b) S := by
      rcases isP_cases hp with ⟨s, hs, rfl⟩ | ⟨c, hc, rfl⟩ | ⟨y, hy, rfl⟩ | ⟨s, y, z, hs, hy, hz, rfl⟩
      · rcases hs with rfl | rfl
        · exact ⟨false, by simp [f9_empties, sub0, cmp_eq (eqD_str' _ _ S), in_two (dts (x := sNone) rfl) dE dT]⟩
        · exact ⟨true, by simp [f9_empties, sub0, cmp_eq (eqD_str' _ _ S), in_two (dts (x := sEmpty) rfl) dE dT]⟩
      · exact ⟨false, by simp [f9_empties, sub0, cmp_eq (eqD_str' _ _ S), in_two (dts (x := sSign) rfl) dE dT]⟩
      · exact ⟨true, by simp [f9_empties, sub0, cmp_eq (eqD_str' _ _ S), in_two (dts (x := sStar) rfl) dE dT]⟩
      · obtain ⟨m', rfl⟩ : ∃ m', m = m' + 1 := ⟨m - 1, by
          simp only [toP, toPs, PyData.depth, PyData.depthAll] at hm; omega⟩
        have hd : (toP y).depth ≤ m' := by simp only [toP, toPs, PyData.depth, PyData.depthAll] at hm; omega
        have hd2 : (toP z).depth ≤ m' := by simp only [toP, toPs, PyData.depth, PyData.depthAll] at hm; omega
        obtain ⟨b, hb⟩ := empties_ok Q m' y hy hd n S
        obtain ⟨b2, hb2⟩ := empties_ok Q m' z hz hd2 n S
        have ef : n + (m' + 1) = n + m' + 1 := by omega
        rw [ef]
        rcases hs with rfl | rfl
        · cases b
          · exact ⟨b2, by simp [f9_empties, sub0, sub1, sub2, cmp_eq (eqD_str' _ _ S), hb, hb2]⟩
          · exact ⟨true, by simp [f9_empties, sub0, sub1, sub2, cmp_eq (eqD_str' _ _ S), hb, hb2]⟩
        · cases b
          · exact ⟨false, by simp [f9_empties, sub0, sub1, sub2, cmp_eq (eqD_str' _ _ S), hb, hb2]⟩
          · exact ⟨b2, by simp [f9_empties, sub0, sub1, sub2, cmp_eq (eqD_str' _ _ S), hb, hb2]⟩
    obtain ⟨b, h1⟩ := go
    refine ⟨b, ?_⟩
    show endD S (evSs (callN Φ (n + m)) f9_empties.body [some x] S) = _
    rw [h1]
    simp [gc_self]
  termination_by m => m
/-- data small enough to be asked about and shown -/
structure Sm (m : Nat) (d : D) : Prop where
  dt : Dt d
  dep : (toP d).depth ≤ m
  wt : (toP d).weight ≤ 1000000
  sh : (toP d).showable = true
  si : (toP d).intsShort 13 = true
theorem Sm.repr {m : Nat} {d : D} (h : Sm m d) (S : Sto) : bltD .repr [d] S = .ok (.str (toP d).shown.cps.toList) S := by
  have l : PyData.layable0 (toP d) = true := by
    unfold PyData.layable0
    rw [h.dt.lay, decide_eq_true h.dt.dep, decide_eq_true (Nat.le_trans h.wt (by decide))]
    rfl
  have s := PyProof.Rows.shown_le13 l h.si
  have s2 : (toP d).shown.length ≤ sz := by show _ ≤ 16777216; omega
  simp [bltD, h.dt.look, h.sh, s2]
theorem look_yes (P : Phi2 Φ) (Q : Phi6 Φ) {m n : Nat} {d : D} (h : Sm m d) (hp : isP d = true) (S : Sto) : callN Φ (n + m + 3) 3 [d] S = .ok .non S := by
  rw [call_of Q.h3 (n + m + 2) _ S ⟨rfl, by decide⟩]
  have r := right_pattern P m d h.dt h.dep (Nat.le_trans h.wt (by decide)) n S
  show endD S (evSs (callN Φ (n + m + 2)) f3_look_at_pattern.body [some d] S) = _
  have go : evSs (callN Φ (n + m + 2)) f3_look_at_pattern.body [some d] S = .nx [some d] S := by simp [f3_look_at_pattern, r, hp]
  rw [go]
  simp [gc_self]
theorem evS_raise1 (c : Nat → List D → Sto → Out D) (f : FS) (S : Sto) : evS c (.raise 1 .nil) f S = .exc 1 [] f S := by
  unfold evS evEs
  rfl
theorem look_no (P : Phi2 Φ) (Q : Phi6 Φ) {m n : Nat} {d : D} (h : Sm m d) (hp : isP d = false) (S : Sto) : callN Φ (n + m + 3) 3 [d] S = .exc 1 [] S := by
  rw [call_of Q.h3 (n + m + 2) _ S ⟨rfl, by decide⟩]
  have r := right_pattern P m d h.dt h.dep (Nat.le_trans h.wt (by decide)) n S
  show endD S (evSs (callN Φ (n + m + 2)) f3_look_at_pattern.body [some d] S) = _
  have go : evSs (callN Φ (n + m + 2)) f3_look_at_pattern.body [some d] S = .exc 1 [] [some d] S := by simp [f3_look_at_pattern, r, hp, evS_raise1]
  rw [go]
  rfl
theorem ask_yes (P : Phi2 Φ) (Q : Phi6 Φ) {m n : Nat} {d : D} (h : Sm m d) (hm : m ≤ 20) (hp : isP d = true) (S : Sto) : (∃ w, callN Φ (n + m + 4) 8 [d] S = .ok (.str w) S) ∧ ∃ b, callN Φ (n + m + 4) 10 [d] S = .ok (.bl b) S := by
  have l := look_yes P Q (n := n) h hp S
  constructor
  · rw [call_of Q.h8 (n + m + 3) _ S ⟨rfl, by decide⟩]
    obtain ⟨w, hw, _⟩ := signs_in_ok Q m d hp h.dep hm (n + 2) S
    obtain ⟨v, hv⟩ := once_ok Q (n := n + m + 2) (w := w) (S := S)
    have ef : n + 2 + m + 1 = n + m + 3 := by omega
    rw [ef] at hw
    refine ⟨v, ?_⟩
    show endD S (evSs (callN Φ (n + m + 3)) f8_signs_of.body [some d] S) = _
    have go : evSs (callN Φ (n + m + 3)) f8_signs_of.body [some d] S = .ret (.str v) S := by simp [f8_signs_of, l, hw, hv]
    rw [go]
    simp [gc_self]
  · rw [call_of Q.h10 (n + m + 3) _ S ⟨rfl, by decide⟩]
    obtain ⟨b, hb⟩ := empties_ok Q m d hp h.dep (n + 2) S
    have ef : n + 2 + m + 1 = n + m + 3 := by omega
    rw [ef] at hb
    refine ⟨b, ?_⟩
    show endD S (evSs (callN Φ (n + m + 3)) f10_has_empty.body [some d] S) = _
    have go : evSs (callN Φ (n + m + 3)) f10_has_empty.body [some d] S = .ret (.bl b) S := by simp [f10_has_empty, l, hb]
    rw [go]
    simp [gc_self]
theorem ask_no (P : Phi2 Φ) (Q : Phi6 Φ) {m n : Nat} {d : D} (h : Sm m d) (hp : isP d = false) (S : Sto) : callN Φ (n + m + 4) 8 [d] S = .exc 1 [] S ∧ callN Φ (n + m + 4) 10 [d] S = .exc 1 [] S := by
  have l := look_no P Q (n := n) h hp S
  constructor
  · rw [call_of Q.h8 (n + m + 3) _ S ⟨rfl, by decide⟩]
    show endD S (evSs (callN Φ (n + m + 3)) f8_signs_of.body [some d] S) = _
    have go : evSs (callN Φ (n + m + 3)) f8_signs_of.body [some d] S = .exc 1 [] [some d] S := by simp [f8_signs_of, l]
    rw [go]
    rfl
  · rw [call_of Q.h10 (n + m + 3) _ S ⟨rfl, by decide⟩]
    show endD S (evSs (callN Φ (n + m + 3)) f10_has_empty.body [some d] S) = _
    have go : evSs (callN Φ (n + m + 3)) f10_has_empty.body [some d] S = .exc 1 [] [some d] S := by simp [f10_has_empty, l]
    rw [go]
    rfl
structure Phi28 (Φ : Nat → Option Def) : Prop where
  h27 : Φ 27 = some f27_L_flags
  h28 : Φ 28 = some f28_L_error
  h29 : Φ 29 = some f29_L_word
theorem flags_ok (W : Phi28 Φ) {n k : Nat} {S : Sto} (h : S[k]? = some (.exc 1 [])) : callN Φ (n + 1) 27 [.ref k] S = .ok (.lst [.bl true, .bl false, .bl false, .bl false, .bl false, .bl false, .bl false, .bl false, .bl false, .bl false, .bl false, .bl false, .bl false, .bl false]) S := by
  rw [call_of W.h27 n _ S ⟨rfl, by decide⟩]
  have t : ∀ c, c < 15 → isTy S (.own c) (.ref k) = some (under 1 c) := fun c hc => by simp [isTy, h, hc]
  show endD S (evSs (callN Φ n) f27_L_flags.body [some (.ref k), none] S) = _
  have go : evSs (callN Φ n) f27_L_flags.body [some (.ref k), none] S = .ret (.lst [.bl true, .bl false, .bl false, .bl false, .bl false, .bl false, .bl false, .bl false, .bl false, .bl false, .bl false, .bl false, .bl false, .bl false]) S := by
    simp [f27_L_flags, t, under, binD, items]
  rw [go]
  simp [gc_self]
abbrev fl14 : List D := [.bl true, .bl false, .bl false, .bl false, .bl false, .bl false, .bl false, .bl false, .bl false, .bl false, .bl false, .bl false, .bl false, .bl false]
abbrev sPattern : List Nat := [112, 97, 116, 116, 101, 114, 110]
theorem dt_fl : Dt (.lst fl14) := ⟨by decide +kernel, by decide +kernel, by decide +kernel⟩
theorem count_fl (S : Sto) : mthD .count (.lst fl14) [.bl true] S = .ok (.int 1) S := by
  simp only [mthD, dt_fl.look, Dt.bl.look]
  rfl
theorem index_fl (S : Sto) : mthD .index (.lst fl14) [.bl true] S = .ok (.int 0) S := by
  simp only [mthD, dt_fl.look, Dt.bl.look]
  rfl
theorem sub_lst0 (d : D) (r : List D) (S : Sto) : subD (.lst (d :: r)) (.int 0) S = .ok d S := by simp [subD, seqOf, items, placeOf]
theorem error_ok (W : Phi28 Φ) {n k : Nat} {S : Sto} (h : S[k]? = some (.exc 1 [])) : callN Φ (n + 2) 28 [.ref k] S = .ok (.str sPattern) S := by
  rw [call_of W.h28 (n + 1) _ S ⟨rfl, by decide⟩]
  have fl := flags_ok W (n := n) h
  have t0 : isTy S (.own 0) (.ref k) = some true := by simp [isTy, h, under]
  have t1 : isTy S .ve (.ref k) = some true := by simp [isTy, h]
  show endD S (evSs (callN Φ (n + 1)) f28_L_error.body [some (.ref k), none, none] S) = _
  have go : evSs (callN Φ (n + 1)) f28_L_error.body [some (.ref k), none, none] S = .ret (.str sPattern) S := by
    have ad : ∀ (x y : List D), x.length + y.length ≤ 100 → binD .add (.lst x) (.lst y) S = .ok (.lst (x ++ y)) S := fun x y hxy => by
      simp only [binD, items]
      rw [if_pos]
      show _ ≤ 16777216
      omega
    simp [f28_L_error, isND, fl, mthX, recv, mtTxt, count_fl, index_fl, t0, t1, ad, sub_lst0]
  rw [go]
  simp [gc_self]
theorem error_none (W : Phi28 Φ) {n : Nat} {S : Sto} : callN Φ (n + 1) 28 [.non] S = .ok (.str []) S := by
  rw [call_of W.h28 n _ S ⟨rfl, by decide⟩]
  show endD S (evSs (callN Φ n) f28_L_error.body [some .non, none, none] S) = _
  have go : evSs (callN Φ n) f28_L_error.body [some .non, none, none] S = .ret (.str []) S := by simp [f28_L_error, isND]
  rw [go]
  simp [gc_self]
theorem gc_str {S : Sto} {T : Sto} (w : List Nat) : gc S (.str w) (S ++ T) = S := by
  unfold gc
  rw [if_pos ⟨⟨1, trivial⟩, List.prefix_append S T⟩]
theorem word_ok (P : Phi2 Φ) (Q : Phi6 Φ) (W : Phi28 Φ) {m n : Nat} {d : D} {i : Int} (h : Sm m d) (hm : m ≤ 20) (S : Sto) : callN Φ (n + m + 5) 29 [.int i, d] S = .ok (.str (if isP d then [] else sPattern)) S := by
  rw [call_of W.h29 (n + m + 4) _ S ⟨rfl, by decide⟩]
  show endD S (evSs (callN Φ (n + m + 4)) f29_L_word.body [some (.int i), some d, none, none, none] S) = _
  cases hp : isP d with
  | true =>
    obtain ⟨⟨w, hw⟩, ⟨b, hb⟩⟩ := ask_yes P Q (n := n) h hm hp S
    have en := error_none W (n := n + m + 3) (S := S)
    have go : evSs (callN Φ (n + m + 4)) f29_L_word.body [some (.int i), some d, none, none, none] S = .ret (.str []) S := by
      by_cases hi : i = 0
      · simp [f29_L_word, h.repr, hi, hw, tryD, cmp_ne (eqD_str' _ _ S), en]
      · simp [f29_L_word, h.repr, hi, hb, tryD, cmp_ne (eqD_str' _ _ S), en]
    rw [go]
    simp [gc_self]
  | false =>
    obtain ⟨q1, q2⟩ := ask_no P Q (n := n) h hp S
    have er := error_ok W (n := n + m + 2) (k := S.length) (S := S ++ [.exc 1 []]) (by simp)
    have go : evSs (callN Φ (n + m + 4)) f29_L_word.body [some (.int i), some d, none, none, none] S = .ret (.str sPattern) (S ++ [.exc 1 []]) := by
      by_cases hi : i = 0
      · simp [f29_L_word, h.repr, hi, q1, tryD, under, cmp_ne (eqD_str' _ _ _), er]
      · simp [f29_L_word, h.repr, hi, q2, tryD, under, cmp_ne (eqD_str' _ _ _), er]
    rw [go]
    simp only [endD_ret, gc_str]
    rfl
end SL
set_option Elab.async false
set_option linter.all false
set_option maxRecDepth 100000
set_option maxHeartbeats 2000000
/-! C7: the odd things that the law k02 asks about. -/
namespace SL
open PySem
variable {Φ : Nat → Option Def}
structure Sq (a w : Nat) (d : D) : Prop where
  fl : flat d = true
  lay : (toP d).canLay0 = true
  dep : (toP d).depth ≤ a
  wt : (toP d).weight ≤ w
  sh : (toP d).showable = true
  si : (toP d).intsShort 13 = true
structure Sql (a w : Nat) (ds : List D) : Prop where
  fl : flats ds = true
  lay : PyData.canLayAll0 (toPs ds) = true
  dep : PyData.depthAll (toPs ds) ≤ a
  wt : PyData.weightAll (toPs ds) ≤ w
  sh : PyData.showableAll (toPs ds) = true
  si : PyData.intsShortAll 13 (toPs ds) = true
theorem Sq.sm {w : Nat} {d : D} (h : Sq 8 w d) (hw : w ≤ 1000000) : Sm 8 d := ⟨⟨h.fl, h.lay, Nat.le_trans h.dep (by decide)⟩, h.dep, Nat.le_trans h.wt hw, h.sh, h.si⟩
theorem Sq.wd {a w v : Nat} {d : D} (h : Sq a w d) (hw : w ≤ v) : Sq a v d := ⟨h.fl, h.lay, h.dep, Nat.le_trans h.wt hw, h.sh, h.si⟩
theorem Sq.up {a b w : Nat} {d : D} (h : Sq a w d) (le : a ≤ b) : Sq b w d := ⟨h.fl, h.lay, Nat.le_trans h.dep le, h.wt, h.sh, h.si⟩
theorem Sql.up {a b w : Nat} {d : List D} (h : Sql a w d) (le : a ≤ b) : Sql b w d := ⟨h.fl, h.lay, Nat.le_trans h.dep le, h.wt, h.sh, h.si⟩
theorem sql_nil {a : Nat} : Sql a 0 [] := ⟨rfl, rfl, Nat.zero_le _, Nat.le_refl _, rfl, rfl⟩
theorem sql_cons {a w v : Nat} {d : D} {ds : List D} (h : Sq a w d) (r : Sql a v ds) : Sql a (w + 1 + v) (d :: ds) := by
  refine ⟨by show (flat d && flats ds) = true; rw [h.fl, r.fl]; rfl, by simp [toPs, PyData.canLayAll0, h.lay, r.lay], ?_, ?_, by simp [toPs, PyData.showableAll, h.sh, r.sh], by simp [toPs, PyData.intsShortAll, h.si, r.si]⟩
  · have := h.dep
    have := r.dep
    simp only [toPs, PyData.depthAll]
    omega
  · have := h.wt
    have := r.wt
    simp only [toPs, PyData.weightAll]
    omega
theorem sq_tup {a w : Nat} {ds : List D} (r : Sql a w ds) : Sq (a + 1) w (.tup ds) := by
  refine ⟨r.fl, by simpa [toP, PyData.canLay0] using r.lay, ?_, by simpa [toP, PyData.weight] using r.wt, by simpa [toP, PyData.showable] using r.sh, by simpa [toP, PyData.intsShort] using r.si⟩
  have := r.dep
  simp only [toP, PyData.depth]
  omega
theorem sq_lst {a w : Nat} {ds : List D} (r : Sql a w ds) : Sq (a + 1) w (.lst ds) := by
  refine ⟨r.fl, by simpa [toP, PyData.canLay0] using r.lay, ?_, by simpa [toP, PyData.weight] using r.wt, by simpa [toP, PyData.showable] using r.sh, by simpa [toP, PyData.intsShort] using r.si⟩
  have := r.dep
  simp only [toP, PyData.depth]
  omega
theorem sq_non {a : Nat} : Sq a 0 .non := ⟨rfl, rfl, Nat.zero_le _, Nat.le_refl _, rfl, rfl⟩
theorem sq_bl {a : Nat} {b : Bool} : Sq a 0 (.bl b) := ⟨rfl, rfl, Nat.zero_le _, Nat.le_refl _, rfl, rfl⟩
theorem sq_zero {a : Nat} : Sq a 0 (.int 0) := ⟨rfl, rfl, Nat.zero_le _, by decide +kernel, by decide +kernel, by decide +kernel⟩
theorem sq_str {a : Nat} {s : List Nat} (h : (s.all fun c => decide (c < 1114112)) = true) : Sq a s.length (.str s) := by
  have d := dts h
  exact ⟨rfl, d.lay, Nat.zero_le _, by simp [toP, PyData.weight], rfl, rfl⟩
theorem Pt.sq {x : D} (h : Pt 4 x) : ∃ ds, x = .tup ds ∧ ds.length ≤ 3 ∧ Sq 5 310 x ∧ Sql 4 310 ds := by
  have w := h.wt
  have s : Sq 5 310 x := ⟨h.fl, h.lay, h.dep, by omega, h.sh, h.si⟩
  have key : ∃ ds, x = .tup ds ∧ ds.length ≤ 3 := by
    rcases isP_cases h.p with ⟨s, hs, rfl⟩ | ⟨c, hc, rfl⟩ | ⟨y, hy, rfl⟩ | ⟨s, y, z, hs, hy, hz, rfl⟩
    · exact ⟨_, rfl, by simp⟩
    · exact ⟨_, rfl, by simp⟩
    · exact ⟨_, rfl, by simp⟩
    · exact ⟨_, rfl, by simp⟩
  obtain ⟨ds, rfl, hl⟩ := key
  refine ⟨ds, rfl, hl, s, ⟨s.fl, by simpa [toP, PyData.canLay0] using s.lay, ?_, by simpa [toP, PyData.weight] using s.wt, by simpa [toP, PyData.showable] using s.sh, by simpa [toP, PyData.intsShort] using s.si⟩⟩
  have := s.dep
  simp only [toP, PyData.depth] at this
  omega
def od0 (ds : List D) : List D := [.non, (.int 0), (.str []), (.str [97]), (.tup []), (.lst []), (.tup [(.str [110, 111, 110, 101]), (.tup ds)]), (.tup [(.str [101, 109, 112, 116, 121]), (.str [97])]), (.tup [(.str [115, 105, 103, 110])]), (.tup [(.str [115, 105, 103, 110]), (.str [105])]), (.tup [(.str [115, 105, 103, 110]), (.str [])])]
def od1 (ds : List D) : List D := [(.tup [(.str [115, 105, 103, 110]), (.str [97, 98])]), (.tup [(.str [115, 105, 103, 110]), (.tup ds)]), (.tup [(.str [115, 105, 103, 110]), (.str [65])]), (.tup [(.str [115, 105, 103, 110]), (.int 0)]), (.tup [(.str [115, 105, 103, 110]), (.str [97]), (.str [98])]), (.tup [(.str [111, 114]), (.tup ds)])]
def od2 (ds : List D) : List D := [(.tup [(.str [116, 104, 101, 110]), (.tup ds), (.tup ds), (.tup ds)]), (.tup [(.str [115, 116, 97, 114])]), (.tup [(.str [115, 116, 97, 114]), (.tup ds), (.tup ds)]), (.tup [(.str [115, 116, 97, 114]), (.str [97])]), (.tup [(.str [115, 116, 97, 114]), (.lst [])]), (.lst [(.str [115, 116, 97, 114]), (.tup ds)])]
def od3 (ds : List D) : List D := [(.tup [(.str [111, 114]), (.tup ds), .non]), (.tup [(.str [111, 114]), .non, (.tup ds)]), (.tup [(.tup ds), (.tup ds)]), (.tup [(.str [116, 104, 101, 110]), (.tup [(.str [115, 105, 103, 110]), (.str [122])]), (.tup ds)]), (.tup [(.str [116, 104, 101, 110]), (.tup ds), (.lst [(.str [110, 111, 110, 101])])])]
def od4 (ds : List D) : List D := [(.tup [(.str [79, 114]), (.tup ds), (.tup ds)]), (.tup [(.str [97, 110, 100]), (.tup ds), (.tup ds)]), (.tup [(.str [115, 116, 97, 114]), (.tup [(.str [115, 116, 97, 114])])]), (.bl true), (.tup [(.str [111, 114]), (.tup [(.str [111, 114]), (.tup ds), (.tup [(.str [110, 111, 110, 101]), (.int 0)])]), (.tup ds)])]
def od5 (ds : List D) : List D := [(.tup ((.str [110, 111, 110, 101]) :: ds)), (.tup [(.str [111, 114]), (.tup ds), (.tup ds), (.tup ds)]), (.tup [(.str [116, 104, 101, 110]), (.tup ds)]), (.tup [(.int 0), (.tup ds)]), (.lst ds), (.tup [(.str [119, 111, 114, 100]), (.str [97])]), (.tup [.non, (.tup ds)]), (.str [110, 111, 110, 101])]
theorem sm_od0 {ds : List D} (hx : Sq 5 310 (.tup ds)) (hs : Sql 4 310 ds) : ∀ d ∈ od0 ds, Sq 8 5000 d := by
  intro d hd
  simp only [od0, List.mem_cons, List.not_mem_nil, or_false] at hd
  rcases hd with rfl | rfl | rfl | rfl | rfl | rfl | rfl | rfl | rfl | rfl | rfl
  · exact Sq.wd sq_non (by decide)
  · exact Sq.wd sq_zero (by decide)
  · exact Sq.wd (sq_str rfl) (by decide)
  · exact Sq.wd (sq_str rfl) (by decide)
  · exact Sq.wd (sq_tup sql_nil) (by decide)
  · exact Sq.wd (sq_lst sql_nil) (by decide)
  · exact Sq.wd (sq_tup (sql_cons (sq_str rfl) (sql_cons (hx.up (by decide)) sql_nil))) (by decide)
  · exact Sq.wd (sq_tup (sql_cons (sq_str rfl) (sql_cons (sq_str rfl) sql_nil))) (by decide)
  · exact Sq.wd (sq_tup (sql_cons (sq_str rfl) sql_nil)) (by decide)
  · exact Sq.wd (sq_tup (sql_cons (sq_str rfl) (sql_cons (sq_str rfl) sql_nil))) (by decide)
  · exact Sq.wd (sq_tup (sql_cons (sq_str rfl) (sql_cons (sq_str rfl) sql_nil))) (by decide)
theorem sm_od1 {ds : List D} (hx : Sq 5 310 (.tup ds)) (hs : Sql 4 310 ds) : ∀ d ∈ od1 ds, Sq 8 5000 d := by
  intro d hd
  simp only [od1, List.mem_cons, List.not_mem_nil, or_false] at hd
  rcases hd with rfl | rfl | rfl | rfl | rfl | rfl
  · exact Sq.wd (sq_tup (sql_cons (sq_str rfl) (sql_cons (sq_str rfl) sql_nil))) (by decide)
  · exact Sq.wd (sq_tup (sql_cons (sq_str rfl) (sql_cons (hx.up (by decide)) sql_nil))) (by decide)
  · exact Sq.wd (sq_tup (sql_cons (sq_str rfl) (sql_cons (sq_str rfl) sql_nil))) (by decide)
  · exact Sq.wd (sq_tup (sql_cons (sq_str rfl) (sql_cons sq_zero sql_nil))) (by decide)
  · exact Sq.wd (sq_tup (sql_cons (sq_str rfl) (sql_cons (sq_str rfl) (sql_cons (sq_str rfl) sql_nil)))) (by decide)
  · exact Sq.wd (sq_tup (sql_cons (sq_str rfl) (sql_cons (hx.up (by decide)) sql_nil))) (by decide)
theorem sm_od2 {ds : List D} (hx : Sq 5 310 (.tup ds)) (hs : Sql 4 310 ds) : ∀ d ∈ od2 ds, Sq 8 5000 d := by
  intro d hd
  simp only [od2, List.mem_cons, List.not_mem_nil, or_false] at hd
  rcases hd with rfl | rfl | rfl | rfl | rfl | rfl
  · exact Sq.wd (sq_tup (sql_cons (sq_str rfl) (sql_cons (hx.up (by decide)) (sql_cons (hx.up (by decide)) (sql_cons (hx.up (by decide)) sql_nil))))) (by decide)
  · exact Sq.wd (sq_tup (sql_cons (sq_str rfl) sql_nil)) (by decide)
  · exact Sq.wd (sq_tup (sql_cons (sq_str rfl) (sql_cons (hx.up (by decide)) (sql_cons (hx.up (by decide)) sql_nil)))) (by decide)
  · exact Sq.wd (sq_tup (sql_cons (sq_str rfl) (sql_cons (sq_str rfl) sql_nil))) (by decide)
  · exact Sq.wd (sq_tup (sql_cons (sq_str rfl) (sql_cons (sq_lst sql_nil) sql_nil))) (by decide)
  · exact Sq.wd (sq_lst (sql_cons (sq_str rfl) (sql_cons (hx.up (by decide)) sql_nil))) (by decide)
theorem sm_od3 {ds : List D} (hx : Sq 5 310 (.tup ds)) (hs : Sql 4 310 ds) : ∀ d ∈ od3 ds, Sq 8 5000 d := by
  intro d hd
  simp only [od3, List.mem_cons, List.not_mem_nil, or_false] at hd
  rcases hd with rfl | rfl | rfl | rfl | rfl
  · exact Sq.wd (sq_tup (sql_cons (sq_str rfl) (sql_cons (hx.up (by decide)) (sql_cons sq_non sql_nil)))) (by decide)
  · exact Sq.wd (sq_tup (sql_cons (sq_str rfl) (sql_cons sq_non (sql_cons (hx.up (by decide)) sql_nil)))) (by decide)
  · exact Sq.wd (sq_tup (sql_cons (hx.up (by decide)) (sql_cons (hx.up (by decide)) sql_nil))) (by decide)
  · exact Sq.wd (sq_tup (sql_cons (sq_str rfl) (sql_cons (sq_tup (sql_cons (sq_str rfl) (sql_cons (sq_str rfl) sql_nil))) (sql_cons (hx.up (by decide)) sql_nil)))) (by decide)
  · exact Sq.wd (sq_tup (sql_cons (sq_str rfl) (sql_cons (hx.up (by decide)) (sql_cons (sq_lst (sql_cons (sq_str rfl) sql_nil)) sql_nil)))) (by decide)
theorem sm_od4 {ds : List D} (hx : Sq 5 310 (.tup ds)) (hs : Sql 4 310 ds) : ∀ d ∈ od4 ds, Sq 8 5000 d := by
  intro d hd
  simp only [od4, List.mem_cons, List.not_mem_nil, or_false] at hd
  rcases hd with rfl | rfl | rfl | rfl | rfl
  · exact Sq.wd (sq_tup (sql_cons (sq_str rfl) (sql_cons (hx.up (by decide)) (sql_cons (hx.up (by decide)) sql_nil)))) (by decide)
  · exact Sq.wd (sq_tup (sql_cons (sq_str rfl) (sql_cons (hx.up (by decide)) (sql_cons (hx.up (by decide)) sql_nil)))) (by decide)
  · exact Sq.wd (sq_tup (sql_cons (sq_str rfl) (sql_cons (sq_tup (sql_cons (sq_str rfl) sql_nil)) sql_nil))) (by decide)
  · exact Sq.wd sq_bl (by decide)
  · exact Sq.wd (sq_tup (sql_cons (sq_str rfl) (sql_cons (sq_tup (sql_cons (sq_str rfl) (sql_cons (hx.up (by decide)) (sql_cons (sq_tup (sql_cons (sq_str rfl) (sql_cons sq_zero sql_nil))) sql_nil)))) (sql_cons (hx.up (by decide)) sql_nil)))) (by decide)
theorem sm_od5 {ds : List D} (hx : Sq 5 310 (.tup ds)) (hs : Sql 4 310 ds) : ∀ d ∈ od5 ds, Sq 8 5000 d := by
  intro d hd
  simp only [od5, List.mem_cons, List.not_mem_nil, or_false] at hd
  rcases hd with rfl | rfl | rfl | rfl | rfl | rfl | rfl | rfl
  · exact Sq.wd (sq_tup (sql_cons (sq_str rfl) (hs.up (by decide)))) (by decide)
  · exact Sq.wd (sq_tup (sql_cons (sq_str rfl) (sql_cons (hx.up (by decide)) (sql_cons (hx.up (by decide)) (sql_cons (hx.up (by decide)) sql_nil))))) (by decide)
  · exact Sq.wd (sq_tup (sql_cons (sq_str rfl) (sql_cons (hx.up (by decide)) sql_nil))) (by decide)
  · exact Sq.wd (sq_tup (sql_cons sq_zero (sql_cons (hx.up (by decide)) sql_nil))) (by decide)
  · exact Sq.wd (sq_lst (hs.up (by decide))) (by decide)
  · exact Sq.wd (sq_tup (sql_cons (sq_str rfl) (sql_cons (sq_str rfl) sql_nil))) (by decide)
  · exact Sq.wd (sq_tup (sql_cons sq_non (sql_cons (hx.up (by decide)) sql_nil))) (by decide)
  · exact Sq.wd (sq_str rfl) (by decide)
end SL
set_option Elab.async false
set_option linter.all false
set_option maxRecDepth 100000
set_option maxHeartbeats 2000000
namespace SL
open PySem
variable {Φ : Nat → Option Def}
theorem bad_ok (h23 : Φ 23 = some f23_L_bad_patterns) {n : Nat} {ds : List D} (hl : ds.length ≤ 3) (S : Sto) : callN Φ (n + 1) 23 [.tup ds] S = .ok (.lst (((((od0 ds ++ od1 ds) ++ od2 ds) ++ od3 ds) ++ od4 ds) ++ od5 ds)) S := by
  rw [call_of h23 n _ S ⟨rfl, by decide⟩]
  have ad : ∀ (x y : List D), x.length + y.length ≤ 100 → binD .add (.lst x) (.lst y) S = .ok (.lst (x ++ y)) S := fun x y hxy => by
    simp only [binD, items]
    rw [if_pos]
    show _ ≤ 16777216
    omega
  have a2 : ∀ s, binD .add (.tup [.str s]) (.tup ds) S = .ok (.tup (.str s :: ds)) S := fun s => by
    simp only [binD]
    rw [if_pos]
    · rfl
    · simp only [List.length_cons, List.length_nil]
      show _ ≤ 16777216
      omega
  have li : bltD .list [.tup ds] S = .ok (.lst ds) S := rfl
  show endD S (evSs (callN Φ n) f23_L_bad_patterns.body [some (.tup ds), none] S) = _
  have go : evSs (callN Φ n) f23_L_bad_patterns.body [some (.tup ds), none] S = .ret (.lst (((((od0 ds ++ od1 ds) ++ od2 ds) ++ od3 ds) ++ od4 ds) ++ od5 ds)) S := by
    simp [f23_L_bad_patterns, ad, a2, li, od0, od1, od2, od3, od4, od5]
  rw [go]
  simp only [endD_ret, gc_self]
theorem bad_sq {ds : List D} (hx : Sq 5 310 (.tup ds)) (hs : Sql 4 310 ds) : ∀ d ∈ (((((od0 ds ++ od1 ds) ++ od2 ds) ++ od3 ds) ++ od4 ds) ++ od5 ds), Sq 8 5000 d := by
  intro d hd
  simp only [List.mem_append] at hd
  rcases hd with (((((h | h) | h) | h) | h) | h)
  · exact sm_od0 hx hs d h
  · exact sm_od1 hx hs d h
  · exact sm_od2 hx hs d h
  · exact sm_od3 hx hs d h
  · exact sm_od4 hx hs d h
  · exact sm_od5 hx hs d h
theorem bad_sm {ds : List D} (hx : Sq 5 310 (.tup ds)) (hs : Sql 4 310 ds) : ∀ d ∈ (((((od0 ds ++ od1 ds) ++ od2 ds) ++ od3 ds) ++ od4 ds) ++ od5 ds), Sm 8 d := fun d hd => (bad_sq hx hs d hd).sm (by decide)
end SL
set_option Elab.async false
set_option linter.all false
set_option maxRecDepth 100000
set_option maxHeartbeats 2000000
/-! D1: patterns as a type of their own; what they tell; exact values of the small functions. -/
namespace SL
open PySem
variable {Φ : Nat → Option Def}
inductive Re where
  | none
  | empty
  | sign (c : Nat)
  | or (a b : Re)
  | thn (a b : Re)
  | star (a : Re)
  deriving DecidableEq
namespace Re
def d : Re → D
  | .none => .tup [.str sNone]
  | .empty => .tup [.str sEmpty]
  | .sign c => .tup [.str sSign, .str [c]]
  | .or a b => .tup [.str sOr, a.d, b.d]
  | .thn a b => .tup [.str sThen, a.d, b.d]
  | .star a => .tup [.str sStar, a.d]
def ok : Re → Prop
  | .none => True
  | .empty => True
  | .sign c => c ∈ sigs
  | .or a b => a.ok ∧ b.ok
  | .thn a b => a.ok ∧ b.ok
  | .star a => a.ok
def ht : Re → Nat
  | .none => 1
  | .empty => 1
  | .sign _ => 1
  | .or a b => max a.ht b.ht + 1
  | .thn a b => max a.ht b.ht + 1
  | .star a => a.ht + 1
def nul : Re → Bool
  | .none => false
  | .empty => true
  | .sign _ => false
  | .or a b => a.nul || b.nul
  | .thn a b => a.nul && b.nul
  | .star _ => true
def sgn : Re → List Nat
  | .none => []
  | .empty => []
  | .sign c => [c]
  | .or a b => a.sgn ++ b.sgn
  | .thn a b => a.sgn ++ b.sgn
  | .star a => a.sgn
theorem ht_pos (r : Re) : 1 ≤ r.ht := by cases r <;> simp [ht]
theorem depth_eq : ∀ r : Re, (toP r.d).depth = r.ht
  | .none => rfl
  | .empty => rfl
  | .sign _ => rfl
  | .or a b => by simp only [d, toP, toPs, PyData.depth, PyData.depthAll, depth_eq a, depth_eq b, ht]; omega
  | .thn a b => by simp only [d, toP, toPs, PyData.depth, PyData.depthAll, depth_eq a, depth_eq b, ht]; omega
  | .star a => by simp only [d, toP, toPs, PyData.depth, PyData.depthAll, depth_eq a, ht]; omega
end Re
theorem isP_re (m : Nat) : ∀ (x : D), (toP x).depth ≤ m → isP x = true → ∃ r : Re, x = r.d ∧ r.ok := by
  induction m with
  | zero =>
    intro x hm h
    rcases isP_cases h with ⟨s, hs, rfl⟩ | ⟨c, hc, rfl⟩ | ⟨y, hy, rfl⟩ | ⟨s, y, z, hs, hy, hz, rfl⟩
    all_goals (simp only [toP, toPs, PyData.depth, PyData.depthAll] at hm; omega)
  | succ m ih =>
    intro x hm h
    rcases isP_cases h with ⟨s, hs, rfl⟩ | ⟨c, hc, rfl⟩ | ⟨y, hy, rfl⟩ | ⟨s, y, z, hs, hy, hz, rfl⟩
    · rcases hs with rfl | rfl
      · exact ⟨.none, rfl, trivial⟩
      · exact ⟨.empty, rfl, trivial⟩
    · exact ⟨.sign c, rfl, hc⟩
    · simp only [toP, toPs, PyData.depth, PyData.depthAll] at hm
      obtain ⟨r, rfl, hr⟩ := ih y (by omega) hy
      exact ⟨.star r, rfl, hr⟩
    · simp only [toP, toPs, PyData.depth, PyData.depthAll] at hm
      obtain ⟨r, rfl, hr⟩ := ih y (by omega) hy
      obtain ⟨q, rfl, hq⟩ := ih z (by omega) hz
      rcases hs with rfl | rfl
      · exact ⟨.or r q, rfl, hr, hq⟩
      · exact ⟨.thn r q, rfl, hr, hq⟩
/-- a call that returns and leaves the store -/
theorem call_ret {g : Nat} {d : Def} (h : Φ g = some d) {N : Nat} {ds : List D} {S : Sto} {r : D} (hl : ds.length = d.np ∧ d.np ≤ d.ns) (go : evSs (callN Φ N) d.body (start d ds) S = .ret r S) : callN Φ (N + 1) g ds S = .ok r S := by
  rw [call_of h N ds S hl, go]
  simp [gc_self]
theorem call_ret' {g : Nat} {d : Def} (h : Φ g = some d) {N : Nat} {ds : List D} {S S' : Sto} {r : D} (hl : ds.length = d.np ∧ d.np ≤ d.ns) (go : evSs (callN Φ N) d.body (start d ds) S = .ret r S') : callN Φ (N + 1) g ds S = .ok r (gc S r S') := by
  rw [call_of h N ds S hl, go]
  rfl
theorem pre_pos {N k : Nat} (h : k + 1 ≤ N) : ∃ M, N = M + 1 ∧ k ≤ M := ⟨N - 1, by omega, by omega⟩

/-! ### signs_in, and the law's -/
theorem sgn_len : ∀ r : Re, r.sgn.length ≤ 2 ^ r.ht
  | .none => by simp [Re.sgn]
  | .empty => by simp [Re.sgn]
  | .sign c => by simp [Re.sgn, Re.ht]
  | .or a b => by
    have h1 := sgn_len a
    have h2 := sgn_len b
    have e1 : 2 ^ a.ht ≤ 2 ^ (max a.ht b.ht) := Nat.pow_le_pow_right (by decide) (by omega)
    have e2 : 2 ^ b.ht ≤ 2 ^ (max a.ht b.ht) := Nat.pow_le_pow_right (by decide) (by omega)
    simp only [Re.sgn, Re.ht, List.length_append, Nat.pow_succ]
    omega
  | .thn a b => by
    have h1 := sgn_len a
    have h2 := sgn_len b
    have e1 : 2 ^ a.ht ≤ 2 ^ (max a.ht b.ht) := Nat.pow_le_pow_right (by decide) (by omega)
    have e2 : 2 ^ b.ht ≤ 2 ^ (max a.ht b.ht) := Nat.pow_le_pow_right (by decide) (by omega)
    simp only [Re.sgn, Re.ht, List.length_append, Nat.pow_succ]
    omega
  | .star a => by
    have h1 := sgn_len a
    simp only [Re.sgn, Re.ht, Nat.pow_succ]
    omega
theorem sgn_sz {r : Re} (h : r.ht ≤ 20) : r.sgn.length ≤ 1048576 := by
  have h1 := sgn_len r
  have : 2 ^ r.ht ≤ 2 ^ 20 := Nat.pow_le_pow_right (by decide) h
  omega
theorem joined_nil : ∀ ts : List (List Nat), joined [] ts = ts.flatten
  | [] => rfl
  | [x] => by simp [joined]
  | x :: y :: r => by
    have := joined_nil (y :: r)
    simp [joined, this]
/-- both defs have the same text, but for their numbers -/
theorem signs_gen {g : Nat} {df : Def} (hg : Φ g = some df) (hdf : df = ⟨1, 2, (.cons (.ifs (.cmp .eq (.sub (.var 0) (.cst (.int 0))) (.cst (.str sSign))) (.cons (.ret (.sub (.var 0) (.cst (.int 1)))) .nil) .nil) (.cons (.ret (.mth .join (.cst (.str [])) (.cons (.comp (.call g (.cons (.var 1) .nil)) (.name 1) (.val (.slc (.var 0) (.yes (.cst (.int 1))) .no)) .no [1]) .nil))) .nil))⟩) :
    ∀ (r : Re), r.ht ≤ 20 → ∀ (N : Nat) (S : Sto), r.ht + 1 ≤ N → callN Φ N g [r.d] S = .ok (.str r.sgn) S
  | .none, h20, N, S, hN => by
    obtain ⟨M, rfl, hM⟩ := pre_pos hN
    refine call_ret hg (by subst hdf; exact ⟨rfl, Nat.le_succ 1⟩) ?_
    subst hdf
    have cm : ∀ f, compD (.name 1) (evO (callN Φ M) .no) (evE (callN Φ M) (.call g (.cons (.var 1) .nil))) [1] f ⟨[], []⟩ S = .ok (.lst []) S := fun f => compD_map id fun d hd => by cases hd
    simp [start, Re.d, sub0, cmp_eq (eqD_str' _ _ S), slc1, cm, mthX, recv, mtTxt, mthD, seqOf, items, texts, joined, Re.sgn]
  | .empty, h20, N, S, hN => by
    obtain ⟨M, rfl, hM⟩ := pre_pos hN
    refine call_ret hg (by subst hdf; exact ⟨rfl, Nat.le_succ 1⟩) ?_
    subst hdf
    have cm : ∀ f, compD (.name 1) (evO (callN Φ M) .no) (evE (callN Φ M) (.call g (.cons (.var 1) .nil))) [1] f ⟨[], []⟩ S = .ok (.lst []) S := fun f => compD_map id fun d hd => by cases hd
    simp [start, Re.d, sub0, cmp_eq (eqD_str' _ _ S), slc1, cm, mthX, recv, mtTxt, mthD, seqOf, items, texts, joined, Re.sgn]
  | .sign c, h20, N, S, hN => by
    obtain ⟨M, rfl, hM⟩ := pre_pos hN
    refine call_ret hg (by subst hdf; exact ⟨rfl, Nat.le_succ 1⟩) ?_
    subst hdf
    simp [start, Re.d, sub0, sub1, cmp_eq (eqD_str' _ _ S), Re.sgn]
  | .star a, h20, N, S, hN => by
    obtain ⟨M, rfl, hM⟩ := pre_pos hN
    simp only [Re.ht] at hM h20
    have ih := signs_gen hg hdf a (by omega) M S (by omega)
    have sa := sgn_sz (r := a) (by omega)
    refine call_ret hg (by subst hdf; exact ⟨rfl, Nat.le_succ 1⟩) ?_
    subst hdf
    have cm : ∀ x, compD (.name 1) (evO (callN Φ M) .no) (evE (callN Φ M) (.call g (.cons (.var 1) .nil))) [1] [some x, none] ⟨[], [a.d]⟩ S = .ok (.lst [.str a.sgn]) S := fun x => compD_map (fun _ => .str a.sgn) fun d hd => by
      rw [List.mem_singleton.mp hd]
      exact step_no rfl (by simp [wipe]; exact ih)
    have hsz : a.sgn.length ≤ sz := by show _ ≤ 16777216; omega
    simp [start, Re.d, sub0, cmp_eq (eqD_str' _ _ S), slc1, cm, mthX, recv, mtTxt, mthD, seqOf, items, texts, joined, Re.sgn, hsz]
  | .or a b, h20, N, S, hN => by
    obtain ⟨M, rfl, hM⟩ := pre_pos hN
    simp only [Re.ht] at hM h20
    have ia := signs_gen hg hdf a (by omega) M S (by omega)
    have ib := signs_gen hg hdf b (by omega) M S (by omega)
    have sa := sgn_sz (r := a) (by omega)
    have sb := sgn_sz (r := b) (by omega)
    refine call_ret hg (by subst hdf; exact ⟨rfl, Nat.le_succ 1⟩) ?_
    subst hdf
    have cm : ∀ x, compD (.name 1) (evO (callN Φ M) .no) (evE (callN Φ M) (.call g (.cons (.var 1) .nil))) [1] [some x, none] ⟨[], [a.d, b.d]⟩ S = .ok (.lst [.str a.sgn, .str b.sgn]) S := fun x => by
      unfold compD compL
      simp [chk_nil, stepD, wipe, ia, compL, ib]
    have hsz : a.sgn.length + b.sgn.length ≤ sz := by show _ ≤ 16777216; omega
    simp [start, Re.d, sub0, cmp_eq (eqD_str' _ _ S), slc1, cm, mthX, recv, mtTxt, mthD, seqOf, items, texts, joined, Re.sgn, hsz]
  | .thn a b, h20, N, S, hN => by
    obtain ⟨M, rfl, hM⟩ := pre_pos hN
    simp only [Re.ht] at hM h20
    have ia := signs_gen hg hdf a (by omega) M S (by omega)
    have ib := signs_gen hg hdf b (by omega) M S (by omega)
    have sa := sgn_sz (r := a) (by omega)
    have sb := sgn_sz (r := b) (by omega)
    refine call_ret hg (by subst hdf; exact ⟨rfl, Nat.le_succ 1⟩) ?_
    subst hdf
    have cm : ∀ x, compD (.name 1) (evO (callN Φ M) .no) (evE (callN Φ M) (.call g (.cons (.var 1) .nil))) [1] [some x, none] ⟨[], [a.d, b.d]⟩ S = .ok (.lst [.str a.sgn, .str b.sgn]) S := fun x => by
      unfold compD compL
      simp [chk_nil, stepD, wipe, ia, compL, ib]
    have hsz : a.sgn.length + b.sgn.length ≤ sz := by show _ ≤ 16777216; omega
    simp [start, Re.d, sub0, cmp_eq (eqD_str' _ _ S), slc1, cm, mthX, recv, mtTxt, mthD, seqOf, items, texts, joined, Re.sgn, hsz]
theorem signs_val (h6 : Φ 6 = some f6_signs_in) {r : Re} (h : r.ht ≤ 20) {N : Nat} {S : Sto} (hN : r.ht + 1 ≤ N) : callN Φ N 6 [r.d] S = .ok (.str r.sgn) S := signs_gen h6 rfl r h N S hN
/-! ### the empty word -/
theorem empties_val (h9 : Φ 9 = some f9_empties) : ∀ (r : Re) (N : Nat) (S : Sto), r.ht + 1 ≤ N → callN Φ N 9 [r.d] S = .ok (.bl r.nul) S := by
  have dE : Dt (.str sEmpty) := dts rfl
  have dT : Dt (.str sStar) := dts rfl
  intro r
  induction r with
  | none =>
    intro N S hN
    obtain ⟨M, rfl, hM⟩ := pre_pos hN
    exact call_ret h9 ⟨rfl, by decide⟩ (by simp [f9_empties, start, Re.d, Re.nul, sub0, cmp_eq (eqD_str' _ _ S), in_two (dts (x := sNone) rfl) dE dT])
  | empty =>
    intro N S hN
    obtain ⟨M, rfl, hM⟩ := pre_pos hN
    exact call_ret h9 ⟨rfl, by decide⟩ (by simp [f9_empties, start, Re.d, Re.nul, sub0, cmp_eq (eqD_str' _ _ S), in_two (dts (x := sEmpty) rfl) dE dT])
  | sign c =>
    intro N S hN
    obtain ⟨M, rfl, hM⟩ := pre_pos hN
    exact call_ret h9 ⟨rfl, by decide⟩ (by simp [f9_empties, start, Re.d, Re.nul, sub0, cmp_eq (eqD_str' _ _ S), in_two (dts (x := sSign) rfl) dE dT])
  | star a iha =>
    intro N S hN
    obtain ⟨M, rfl, hM⟩ := pre_pos hN
    exact call_ret h9 ⟨rfl, by decide⟩ (by simp [f9_empties, start, Re.d, Re.nul, sub0, cmp_eq (eqD_str' _ _ S), in_two (dts (x := sStar) rfl) dE dT])
  | or a b iha ihb =>
    intro N S hN
    obtain ⟨M, rfl, hM⟩ := pre_pos hN
    simp only [Re.ht] at hM
    have ia := iha M S (by omega)
    have ib := ihb M S (by omega)
    refine call_ret h9 ⟨rfl, by decide⟩ ?_
    cases q : a.nul <;> rw [q] at ia <;> simp [f9_empties, start, Re.d, Re.nul, sub0, sub1, sub2, cmp_eq (eqD_str' _ _ S), ia, ib, q]
  | thn a b iha ihb =>
    intro N S hN
    obtain ⟨M, rfl, hM⟩ := pre_pos hN
    simp only [Re.ht] at hM
    have ia := iha M S (by omega)
    have ib := ihb M S (by omega)
    refine call_ret h9 ⟨rfl, by decide⟩ ?_
    cases q : a.nul <;> rw [q] at ia <;> simp [f9_empties, start, Re.d, Re.nul, sub0, sub1, sub2, cmp_eq (eqD_str' _ _ S), ia, ib, q]
end SL
set_option Elab.async false
set_option linter.all false
set_option maxRecDepth 100000
set_option maxHeartbeats 2000000
/-! D2: what a pattern tells; places in a word; the law's matcher. -/
namespace SL
open PySem
variable {Φ : Nat → Option Def}
/-- the pattern tells the word -/
inductive M : Re → List Nat → Prop
  | empty : M .empty []
  | sign (c : Nat) : M (.sign c) [c]
  | orL {a b : Re} {u : List Nat} : M a u → M (.or a b) u
  | orR {a b : Re} {u : List Nat} : M b u → M (.or a b) u
  | thn {a b : Re} {u v : List Nat} : M a u → M b v → M (.thn a b) (u ++ v)
  | star0 {a : Re} : M (.star a) []
  | star1 {a : Re} {u v : List Nat} : M a u → M (.star a) v → M (.star a) (u ++ v)
theorem M_none {w : List Nat} : ¬ M .none w := fun h => by cases h
theorem M_empty {w : List Nat} : M .empty w ↔ w = [] := ⟨fun h => by cases h; rfl, fun h => h ▸ .empty⟩
theorem M_sign {c : Nat} {w : List Nat} : M (.sign c) w ↔ w = [c] := ⟨fun h => by cases h; rfl, fun h => h ▸ .sign c⟩
theorem M_or {a b : Re} {w : List Nat} : M (.or a b) w ↔ M a w ∨ M b w := ⟨fun h => by
  cases h with
  | orL h => exact .inl h
  | orR h => exact .inr h, fun h => h.elim .orL .orR⟩
theorem M_thn {a b : Re} {w : List Nat} : M (.thn a b) w ↔ ∃ u v, w = u ++ v ∧ M a u ∧ M b v := ⟨fun h => by
  cases h with
  | thn h1 h2 => exact ⟨_, _, rfl, h1, h2⟩, fun ⟨u, v, e, h1, h2⟩ => e ▸ .thn h1 h2⟩
theorem nul_M : ∀ r : Re, r.nul = true ↔ M r []
  | .none => ⟨fun h => (by cases h), fun h => (M_none h).elim⟩
  | .empty => ⟨fun _ => .empty, fun _ => rfl⟩
  | .sign c => ⟨fun h => (by cases h), fun h => (by have := M_sign.mp h; cases this)⟩
  | .or a b => by
    rw [M_or, ← nul_M a, ← nul_M b]
    simp [Re.nul]
  | .thn a b => by
    rw [M_thn]
    simp only [Re.nul, Bool.and_eq_true, nul_M a, nul_M b]
    constructor
    · rintro ⟨h1, h2⟩
      exact ⟨[], [], rfl, h1, h2⟩
    · rintro ⟨u, v, e, h1, h2⟩
      obtain ⟨rfl, rfl⟩ := List.append_eq_nil_iff.mp e.symm
      exact ⟨h1, h2⟩
  | .star a => ⟨fun _ => .star0, fun _ => rfl⟩
/-! ### stretches of a word -/
def seg (w : List Nat) (i j : Nat) : List Nat := (w.drop i).take (j - i)
theorem seg_len {w : List Nat} {i j : Nat} (h : i ≤ j) (hj : j ≤ w.length) : (seg w i j).length = j - i := by
  unfold seg
  rw [List.length_take, List.length_drop]
  omega
theorem seg_app {w : List Nat} {i k j : Nat} (h1 : i ≤ k) (h2 : k ≤ j) : seg w i j = seg w i k ++ seg w k j := by
  unfold seg
  have e1 : j - i = (k - i) + (j - k) := by omega
  have e2 : w.drop k = (w.drop i).drop (k - i) := by rw [List.drop_drop]; congr 1; omega
  rw [e1, e2, List.take_add]
theorem seg_split {w u v : List Nat} {i j : Nat} (h : i ≤ j) (hj : j ≤ w.length) (e : seg w i j = u ++ v) : i + u.length ≤ j ∧ u = seg w i (i + u.length) ∧ v = seg w (i + u.length) j := by
  have l := seg_len h hj
  rw [e, List.length_append] at l
  have hk : i + u.length ≤ j := by omega
  have e2 := seg_app (w := w) (i := i) (k := i + u.length) (j := j) (by omega) hk
  rw [e] at e2
  have l2 := seg_len (w := w) (i := i) (j := i + u.length) (by omega) (by omega)
  obtain ⟨h1, h2⟩ := List.append_inj e2 (by rw [l2]; omega)
  exact ⟨hk, h1, h2⟩
def Rl (r : Re) (w : List Nat) (i j : Nat) : Prop := i ≤ j ∧ j ≤ w.length ∧ M r (seg w i j)
theorem Rl_none {w : List Nat} {i j : Nat} : ¬ Rl .none w i j := fun h => M_none h.2.2
theorem Rl_empty {w : List Nat} {i j : Nat} (hi : i ≤ w.length) : Rl .empty w i j ↔ j = i := by
  unfold Rl
  rw [M_empty]
  constructor
  · rintro ⟨h1, h2, h3⟩
    have := seg_len h1 h2
    rw [h3] at this
    simp at this
    omega
  · rintro rfl
    exact ⟨Nat.le_refl _, hi, by simp [seg]⟩
theorem Rl_sign {c : Nat} {w : List Nat} {i j : Nat} : Rl (.sign c) w i j ↔ j = i + 1 ∧ (w.drop i).take 1 = [c] := by
  unfold Rl
  rw [M_sign]
  constructor
  · rintro ⟨h1, h2, h3⟩
    have := seg_len h1 h2
    rw [h3] at this
    simp at this
    have e : j = i + 1 := by omega
    subst e
    refine ⟨rfl, ?_⟩
    unfold seg at h3
    rw [show i + 1 - i = 1 by omega] at h3
    exact h3
  · rintro ⟨rfl, h⟩
    have hl : i < w.length := by
      by_cases q : i < w.length
      · exact q
      · rw [List.drop_eq_nil_of_le (by omega)] at h
        cases h
    refine ⟨by omega, by omega, ?_⟩
    unfold seg
    rw [show i + 1 - i = 1 by omega]
    exact h
theorem Rl_or {a b : Re} {w : List Nat} {i j : Nat} : Rl (.or a b) w i j ↔ Rl a w i j ∨ Rl b w i j := by
  unfold Rl
  rw [M_or]
  constructor
  · rintro ⟨h1, h2, h3 | h3⟩
    · exact .inl ⟨h1, h2, h3⟩
    · exact .inr ⟨h1, h2, h3⟩
  · rintro (⟨h1, h2, h3⟩ | ⟨h1, h2, h3⟩)
    · exact ⟨h1, h2, .inl h3⟩
    · exact ⟨h1, h2, .inr h3⟩
theorem Rl_thn {a b : Re} {w : List Nat} {i j : Nat} : Rl (.thn a b) w i j ↔ ∃ k, Rl a w i k ∧ Rl b w k j := by
  unfold Rl
  rw [M_thn]
  constructor
  · rintro ⟨h1, h2, u, v, e, h3, h4⟩
    obtain ⟨hk, e1, e2⟩ := seg_split h1 h2 e
    exact ⟨i + u.length, ⟨by omega, by omega, e1 ▸ h3⟩, hk, h2, e2 ▸ h4⟩
  · rintro ⟨k, ⟨h1, h2, h3⟩, h4, h5, h6⟩
    exact ⟨by omega, h5, _, _, seg_app h1 h4, h3, h6⟩
inductive Cl (R : Nat → Nat → Prop) : Nat → Nat → Prop
  | refl (i : Nat) : Cl R i i
  | step {i k j : Nat} : R i k → Cl R k j → Cl R i j
theorem Cl.snoc {R : Nat → Nat → Prop} {i k j : Nat} (h : Cl R i k) (q : R k j) : Cl R i j := by
  induction h with
  | refl i => exact .step q (.refl _)
  | step a b ih => exact .step a (ih q)
theorem Rl_star {a : Re} {w : List Nat} {i j : Nat} (hi : i ≤ w.length) : Rl (.star a) w i j ↔ Cl (Rl a w) i j := by
  constructor
  · rintro ⟨h1, h2, h3⟩
    generalize e : seg w i j = s at h3
    generalize er : Re.star a = r at h3
    induction h3 generalizing i with
    | star0 =>
      have := seg_len h1 h2
      rw [e] at this
      simp at this
      have : j = i := by omega
      subst this
      exact .refl _
    | star1 q1 q2 _ ih =>
      cases er
      obtain ⟨hk, e1, e2⟩ := seg_split h1 h2 e
      exact .step ⟨by omega, by omega, e1 ▸ q1⟩ (ih (by omega) hk e2.symm rfl)
    | _ => cases er
  · intro h
    induction h with
    | refl i => exact ⟨Nat.le_refl _, hi, by simp [seg]; exact .star0⟩
    | step q _ ih =>
      obtain ⟨h1, h2, h3⟩ := q
      obtain ⟨h4, h5, h6⟩ := ih h2
      refine ⟨by omega, h5, ?_⟩
      rw [seg_app h1 h4]
      exact .star1 h3 h6
/-! ### lists of places -/
def inz (l : List Nat) : List D := l.map fun i => .int (i : Nat)
theorem ints_app (a b : List Nat) : inz a ++ inz b = inz (a ++ b) := by simp [inz]
theorem ints_dts (l : List Nat) : ∀ d ∈ inz l, Dt d := fun d hd => by
  obtain ⟨i, _, rfl⟩ := List.mem_map.mp hd
  exact Dt.int
theorem ints_depth (l : List Nat) : PyData.depthAll (toPs (inz l)) = 0 := by
  induction l with
  | nil => rfl
  | cons i l ih =>
    show max _ _ = 0
    rw [show PyData.depthAll (toPs (List.map (fun i => D.int (i : Nat)) l)) = 0 from ih]
    rfl
theorem dt_ints (l : List Nat) : Dt (.lst (inz l)) := (Dt.tup (ints_dts l) (by rw [ints_depth]; omega)).2
theorem ne_ints (l : List Nat) (S : Sto) : cmpD .ne (.lst (inz l)) (.lst []) S = .ok (.bl (!l.isEmpty)) S := by
  rw [cmp_ne (eqD_dt (dt_ints l) ⟨rfl, rfl, by decide⟩ S)]
  cases l <;> simp [inz, toP, toPs, PyData.eqv, PyData.eqvAll]
theorem any_ints (i : Nat) (l : List Nat) : ((toPs (inz l)).any fun y => PyData.eqv y (toP (.int (i : Nat)))) = decide (i ∈ l) := by
  induction l with
  | nil => rfl
  | cons j l ih =>
    have e : toPs (inz (j :: l)) = PyData.int (j : Nat) :: toPs (inz l) := rfl
    rw [e, List.any_cons, ih]
    by_cases h : j = i
    · subst h; simp [toP, PyData.eqv]
    · have : ¬ ((j : Int) = (i : Int)) := by omega
      simp [toP, PyData.eqv, this, Ne.symm h]
theorem in_ints (i : Nat) (l : List Nat) (S : Sto) : inD S (.int (i : Nat)) (.lst (inz l)) = some (decide (i ∈ l)) := by
  rw [inD_lst Dt.int (ints_dts l), any_ints]
theorem nodup_len {n : Nat} : ∀ {l : List Nat}, l.Nodup → (∀ i ∈ l, i ≤ n) → l.length ≤ n + 1 := by
  induction n with
  | zero =>
    intro l h b
    match l, h, b with
    | [], _, _ => simp
    | [_], _, _ => simp
    | x :: y :: r, h, b =>
      have h1 := b x (by simp)
      have h2 := b y (by simp)
      have : x = y := by omega
      subst this
      simp at h
  | succ n ih =>
    intro l h b
    have h1 : (l.erase (n + 1)).Nodup := h.erase _
    have h2 := ih h1 fun i hi => by
      have h3 := (h.mem_erase_iff.mp hi)
      have := b i h3.2
      omega
    have h4 : l.length ≤ (l.erase (n + 1)).length + 1 := by
      rw [List.length_erase]
      split <;> omega
    omega
/-- each once -/
def dd (acc : List Nat) : List Nat → List Nat
  | [] => acc
  | i :: l => dd (if i ∈ acc then acc else acc ++ [i]) l
theorem mem_dd : ∀ (l acc : List Nat) (j : Nat), j ∈ dd acc l ↔ j ∈ acc ∨ j ∈ l
  | [], acc, j => by simp [dd]
  | i :: l, acc, j => by
    unfold dd
    rw [mem_dd l]
    by_cases h : i ∈ acc
    · rw [if_pos h]
      constructor
      · rintro (h1 | h1)
        · exact .inl h1
        · exact .inr (List.mem_cons_of_mem _ h1)
      · rintro (h1 | h1)
        · exact .inl h1
        · rcases List.mem_cons.mp h1 with rfl | h1
          · exact .inl h
          · exact .inr h1
    · rw [if_neg h]
      simp [or_assoc]
theorem nodup_dd : ∀ (l acc : List Nat), acc.Nodup → (dd acc l).Nodup
  | [], acc, h => h
  | i :: l, acc, h => by
    unfold dd
    refine nodup_dd l _ ?_
    by_cases q : i ∈ acc
    · rw [if_pos q]; exact h
    · rw [if_neg q, List.nodup_append]
      exact ⟨h, by simp, fun a ha b hb e => by rw [List.mem_singleton.mp hb] at e; exact q (e ▸ ha)⟩
def dks (l : List Nat) : List DK := l.map fun i => .int (i : Nat)
theorem mem_dks {i : Nat} {l : List Nat} : (DK.int (i : Nat)) ∈ dks l ↔ i ∈ l := by
  unfold dks
  rw [List.mem_map]
  constructor
  · rintro ⟨j, hj, e⟩
    have : (j : Int) = i := by injection e
    have : j = i := by omega
    exact this ▸ hj
  · exact fun h => ⟨i, h, rfl⟩
def bodyOnce : Ss := .cons (.put (.var 1) (.var 2) (.cst (.bl true))) .nil
theorem once_loop (c : Nat → List D → Sto → Out D) (x : D) (S0 : Sto) : ∀ (l acc : List Nat) (ds : List D) (o : Option D), acc.length + l.length ≤ sz → ∃ ds' o', forL [] (forB (.name 2) (evSs c bodyOnce)) (inz l) [some x, some (.ref S0.length), o] (S0 ++ [.dct (dks acc) ds]) = .nx [some x, some (.ref S0.length), o'] (S0 ++ [.dct (dks (dd acc l)) ds'])
  | [], acc, ds, o, _ => ⟨ds, o, by unfold inz; rw [List.map_nil]; unfold forL; rw [if_pos (chk_nil _)]; rfl⟩
  | i :: l, acc, ds, o, h => by
    rw [List.length_cons] at h
    have hk : (S0 ++ [Ob.dct (dks acc) ds])[S0.length]? = some (.dct (dks acc) ds) := by simp
    have hl : (dks acc).length < sz := by unfold dks; rw [List.length_map]; omega
    have step : forB (.name 2) (evSs c bodyOnce) (.int (i : Nat)) [some x, some (.ref S0.length), o] (S0 ++ [.dct (dks acc) ds]) = .nx [some x, some (.ref S0.length), some (.int (i : Nat))] (S0 ++ [.dct (dks (if i ∈ acc then acc else acc ++ [i])) (kPutD (dks acc) ds (.int (i : Nat)) (.bl true))]) := by
      have e : kPutK (dks acc) (.int (i : Nat)) = dks (if i ∈ acc then acc else acc ++ [i]) := by
        unfold kPutK
        by_cases q : i ∈ acc
        · rw [if_pos (mem_dks.mpr q), if_pos q]
        · rw [if_neg (fun z => q (mem_dks.mp z)), if_neg q]
          simp [dks]
      simp only [forB, bodyOnce, bind_name, setAt_succ, setAt_zero, evSs_cons, evS_put, ev_cst, Out.so_ok, ev_var, getS_succ, getS_zero, putD, hk, putM, dkOf, if_pos hl, thenS_nx, evSs_nil, e]
      simp
    unfold inz
    rw [List.map_cons]
    unfold forL
    rw [if_pos (chk_nil _), step]
    dsimp only
    have hlen : (if i ∈ acc then acc else acc ++ [i]).length + l.length ≤ sz := by
      split
      · omega
      · rw [List.length_append, List.length_singleton]; omega
    obtain ⟨ds', o', e⟩ := once_loop c x S0 l _ _ (some (.int (i : Nat))) hlen
    exact ⟨ds', o', e⟩
theorem once_val (h19 : Φ 19 = some f19_L_once) {l : List Nat} {N : Nat} {S : Sto} (hl : l.length ≤ sz) (hN : 1 ≤ N) : callN Φ N 19 [.lst (inz l)] S = .ok (.lst (inz (dd [] l))) S := by
  obtain ⟨M, rfl, _⟩ := pre_pos (k := 0) hN
  obtain ⟨ds', o', e⟩ := once_loop (callN Φ M) (.lst (inz l)) S l [] [] none (by simpa using hl)
  have hk : (S ++ [Ob.dct (dks (dd [] l)) ds'])[S.length]? = some (.dct (dks (dd [] l)) ds') := by simp
  have go : evSs (callN Φ M) f19_L_once.body (start f19_L_once [.lst (inz l)]) S = .ret (.lst (inz (dd [] l))) (S ++ [.dct (dks (dd [] l)) ds']) := by
    have e0 : dnewD S = .ok (.ref S.length) (S ++ [.dct [] []]) := rfl
    have e1 : ∀ f T, evE (callN Φ M) .dnew f T = dnewD T := fun f T => by unfold evE; rfl
    have e2 : ∀ f T, evE (callN Φ M) (.keys 1 2) f T = keysV f 1 2 T := fun f T => by unfold evE; rfl
    have e3 : (dks (dd [] l)).map dkD = inz (dd [] l) := by simp [dks, inz, dkD]
    have e' : forL [] (forB (.name 2) (evSs (callN Φ M) (.cons (.put (.var 1) (.var 2) (.cst (.bl true))) .nil))) (inz l) [some (.lst (inz l)), some (.ref S.length), none] (S ++ [.dct [] []]) = .nx [some (.lst (inz l)), some (.ref S.length), o'] (S ++ [.dct (dks (dd [] l)) ds']) := e
    simp only [f19_L_once, start, evSs_cons, evS_asg, e1, e0, Out.so_ok, asg_name]
    simp [e', e2, keysV, keysD, hk, e3]
  rw [call_ret' h19 ⟨rfl, by decide⟩ go]
  have : gc S (.lst (inz (dd [] l))) (S ++ [.dct (dks (dd [] l)) ds']) = S := by
    unfold gc
    rw [if_pos]
    refine ⟨⟨2, fun d hd => ?_⟩, ⟨_, rfl⟩⟩
    obtain ⟨i, _, rfl⟩ := List.mem_map.mp hd
    trivial
  rw [this]
end SL
set_option Elab.async false
set_option linter.all false
set_option maxRecDepth 100000
set_option maxHeartbeats 2000000
/-! D3: the law's matcher finds just the places. -/
namespace SL
open PySem
variable {Φ : Nat → Option Def}
structure PhiM (Φ : Nat → Option Def) : Prop where
  h18 : Φ 18 = some f18_L_ends
  h19 : Φ 19 = some f19_L_once
  h20 : Φ 20 = some f20_L_tells
structure Ends (r : Re) (w s l : List Nat) : Prop where
  nd : l.Nodup
  le : ∀ j ∈ l, j ≤ w.length
  iff : ∀ j, j ∈ l ↔ ∃ i ∈ s, Rl r w i j
theorem cut_one {w : List Nat} {i : Nat} (hi : i ≤ w.length) : cut w (some (i : Int)) (some ((i : Int) + 1)) = (w.drop i).take 1 := by
  unfold cut cutAt
  have h1 : ¬ ((i : Int) < 0) := by omega
  have h2 : ¬ ((i : Int) + 1 < 0) := by omega
  have e1 : min (i : Int).toNat w.length = i := by omega
  have e2 : ((i : Int) + 1).toNat = i + 1 := by omega
  simp only [if_neg h1, if_neg h2, e1, e2]
  by_cases q : i + 1 ≤ w.length
  · rw [show min (i + 1) w.length - i = 1 by omega]
  · rw [show min (i + 1) w.length - i = 0 by omega, List.drop_eq_nil_of_le (by omega)]
    rfl
theorem step_sign (c : Nat → List D → Sto → Out D) {w : List Nat} {x : D} {a : Nat} {i : Nat} {S : Sto} {s k o1 o2 : Option D} (hx : subD x (.int 1) S = .ok (.str [a]) S) (hw : w.length ≤ sz) (hi : i ≤ w.length) :
    stepD (.name 6) (evO c (.yes (.cmp .eq (.slc (.var 1) (.yes (.var 6)) (.yes (.bin .add (.var 6) (.cst (.int 1))))) (.sub (.var 0) (.cst (.int 1)))))) (evE c (.bin .add (.var 6) (.cst (.int 1)))) [some x, some (.str w), s, k, o1, o2, none] (.int (i : Nat)) S = .ok (if decide ((w.drop i).take 1 = [a]) then some (.int ((i + 1 : Nat) : Int)) else none) S := by
  refine step_yes (f' := [some x, some (.str w), s, k, o1, o2, some (.int (i : Nat))]) rfl ?_ (fun _ => ?_)
  · have sl : slcD (.str w) (some (i : Int)) (some ((i : Int) + 1)) S = .ok (.str ((w.drop i).take 1)) S := by
      unfold slcD
      dsimp only
      rw [if_pos hw, cut_one hi]
    simp [binD, sl, hx, cmp_eq (eqD_str' _ _ S)]
  · simp [binD]
theorem map_inz (l : List Nat) (p : Nat → Bool) : (((inz l).filter fun d => match d with | .int i => p i.toNat | _ => false).map fun d => match d with | .int i => .int ((i.toNat + 1 : Nat) : Int) | d => d) = inz ((l.filter p).map (· + 1)) := by
  induction l with
  | nil => rfl
  | cons i l ih =>
    have e : inz (i :: l) = .int (i : Nat) :: inz l := rfl
    rw [e, List.filter_cons, List.filter_cons]
    cases q : p i
    · simp only [Int.toNat_natCast, q, Bool.false_eq_true, if_false]; exact ih
    · simp only [Int.toNat_natCast, q, if_true, List.map_cons, ih]
      rfl
theorem filter_inz (l : List Nat) (p : Nat → Bool) : ((inz l).filter fun d => match d with | .int i => p i.toNat | _ => false) = inz (l.filter p) := by
  induction l with
  | nil => rfl
  | cons i l ih =>
    have e : inz (i :: l) = .int (i : Nat) :: inz l := rfl
    rw [e, List.filter_cons, List.filter_cons]
    cases q : p i
    · simp [q]; exact ih
    · simp only [Int.toNat_natCast, q, if_true, ih]
      rfl
theorem filter_map_succ {l : List Nat} {p : Nat → Bool} (h : l.Nodup) : ((l.filter p).map (· + 1)).Nodup := by
  have h2 : (l.filter p).Nodup := h.filter _
  unfold List.Nodup at h2 ⊢
  rw [List.pairwise_map]
  exact h2.imp fun {a b} q e => q (by omega)
theorem while_go {t : FS → Sto → Out D} {bd : FS → Sto → SO} {n : Nat} {f f' : FS} {S S1 S' : Sto} {r : Option SO} (h1 : t f S = .ok (.bl true) S1) (h2 : bd f S1 = .nx f' S') (h3 : whileN t bd n f' S' = r) : whileN t bd (n + 1) f S = r := by
  unfold whileN
  rw [h1]
  dsimp only
  rw [h2]
  exact h3
theorem while_end {t : FS → Sto → Out D} {bd : FS → Sto → SO} {n : Nat} {f : FS} {S S1 : Sto} (h1 : t f S = .ok (.bl false) S1) : whileN t bd (n + 1) f S = some (.nx f S1) := by
  unfold whileN
  rw [h1]
def starTest : E := .cmp .ne (.var 5) (.lst .nil)
def starBody : Ss := .cons (.asg (.name 5) (.comp (.var 6) (.name 6) (.val (.call 18 (.cons (.sub (.var 0) (.cst (.int 1))) (.cons (.var 1) (.cons (.var 5) .nil))))) (.yes (.cmp .notin (.var 6) (.var 4))) [6])) (.cons (.asg (.name 4) (.bin .add (.var 4) (.var 5))) .nil)
theorem star_loop {c : Nat → List D → Sto → Out D} {a : Re} {w : List Nat} {S : Sto} {st kd : Option D} (hw : w.length ≤ 10000)
    (ih : ∀ s : List Nat, s.Nodup → (∀ i ∈ s, i ≤ w.length) → ∃ l, c 18 [a.d, .str w, .lst (inz s)] S = .ok (.lst (inz l)) S ∧ Ends a w s l) (s : List Nat) :
    ∀ (m : Nat) (found fresh : List Nat) (o6 : Option D), w.length + 2 ≤ found.length + m → found.Nodup → (∀ i ∈ found, i ≤ w.length) → fresh.Nodup → (∀ i ∈ fresh, i ∈ found) → (∀ i ∈ s, i ∈ found) → (∀ j ∈ found, ∃ i ∈ s, Cl (Rl a w) i j) → (∀ i ∈ found, i ∉ fresh → ∀ j, Rl a w i j → j ∈ found) →
    ∃ (n : Nat) (l : List Nat) (f' : FS), whileN (evE c starTest) (evSs c starBody) n [some (Re.star a).d, some (.str w), st, kd, some (.lst (inz found)), some (.lst (inz fresh)), o6] S = some (.nx f' S) ∧ getS f' 4 S = .ok (.lst (inz l)) S ∧ l.Nodup ∧ (∀ j ∈ l, j ≤ w.length) ∧ ∀ j, j ∈ l ↔ ∃ i ∈ s, Cl (Rl a w) i j
  := by
  intro m
  induction m with
  | zero =>
    intro found fresh o6 hm nd hle
    have := nodup_len nd hle
    omega
  | succ m nxt0 =>
    intro found fresh o6 hm nd hle ndf hsub hs hcl hdone
    have hlen := nodup_len nd hle
    have key : ∀ {fd : List Nat}, (∀ i ∈ fd, ∀ j, Rl a w i j → j ∈ fd) → ∀ i j, Cl (Rl a w) i j → i ∈ fd → j ∈ fd := by
      intro fd hd i j h
      induction h with
      | refl i => exact id
      | step q _ ih2 => exact fun hi => ih2 (hd _ hi _ q)
    have test : evE c starTest [some (Re.star a).d, some (.str w), st, kd, some (.lst (inz found)), some (.lst (inz fresh)), o6] S = .ok (.bl (!fresh.isEmpty)) S := by
      simp [starTest, ne_ints]
    cases hf : fresh with
    | nil =>
      subst hf
      refine ⟨1, found, _, while_end (by rw [test]; rfl), rfl, nd, hle, fun j => ⟨hcl j, ?_⟩⟩
      rintro ⟨i, hi, h⟩
      exact key (fun i hi j hr => hdone i hi (by simp) j hr) i j h (hs i hi)
    | cons y ys =>
      rw [← hf]
      have tT : evE c starTest [some (Re.star a).d, some (.str w), st, kd, some (.lst (inz found)), some (.lst (inz fresh)), o6] S = .ok (.bl true) S := by rw [test, hf]; rfl
      obtain ⟨l, hc, he⟩ := ih fresh ndf fun i hi => hle i (hsub i hi)
      have cm : compD (.name 6) (evO c (.yes (.cmp .notin (.var 6) (.var 4)))) (evE c (.var 6)) [6] [some (Re.star a).d, some (.str w), st, kd, some (.lst (inz found)), some (.lst (inz fresh)), o6] ⟨[], inz l⟩ S = .ok (.lst (inz (l.filter fun i => !decide (i ∈ found)))) S := by
        rw [compD_filter (fun d => match d with | .int i => !decide (i.toNat ∈ found) | _ => false) id fun e he2 => ?_]
        · rw [List.map_id]
          exact congrArg (fun z => Out.ok (D.lst z) S) (filter_inz l fun i => !decide (i ∈ found))
        · obtain ⟨i, _, rfl⟩ := List.mem_map.mp he2
          exact step_yes (f' := [some (Re.star a).d, some (.str w), st, kd, some (.lst (inz found)), some (.lst (inz fresh)), some (.int (i : Nat))]) rfl (by simp [cmp_notin (in_ints i found S)]) (fun _ => by simp)
      have hl2 : (l.filter fun i => !decide (i ∈ found)).Nodup := he.nd.filter _
      have nd2 : (found ++ l.filter fun i => !decide (i ∈ found)).Nodup := by
        rw [List.nodup_append]
        refine ⟨nd, hl2, fun x hx z hz e => ?_⟩
        have := (List.mem_filter.mp hz).2
        subst e
        simp [hx] at this
      have le2 : ∀ i ∈ found ++ l.filter fun i => !decide (i ∈ found), i ≤ w.length := fun i hi => by
        rcases List.mem_append.mp hi with h | h
        · exact hle i h
        · exact he.le i (List.mem_filter.mp h).1
      have hlen2 := nodup_len nd2 le2
      have body : evSs c starBody [some (Re.star a).d, some (.str w), st, kd, some (.lst (inz found)), some (.lst (inz fresh)), o6] S = .nx [some (Re.star a).d, some (.str w), st, kd, some (.lst (inz (found ++ l.filter fun i => !decide (i ∈ found)))), some (.lst (inz (l.filter fun i => !decide (i ∈ found)))), o6] S := by
        have ad : binD .add (.lst (inz found)) (.lst (inz (l.filter fun i => !decide (i ∈ found)))) S = .ok (.lst (inz (found ++ l.filter fun i => !decide (i ∈ found)))) S := by
          have : (inz found).length + (inz (l.filter fun i => !decide (i ∈ found))).length ≤ sz := by
            simp only [inz, List.length_map]
            rw [List.length_append] at hlen2
            show _ ≤ 16777216
            omega
          simp only [binD, items, if_pos this, ints_app]
        have s1 : subD (Re.star a).d (.int 1) S = .ok a.d S := sub1 _ _ _ _
        simp [starBody, s1, hc, cm, ad]
      have nxt := nxt0 (found ++ l.filter fun i => !decide (i ∈ found)) (l.filter fun i => !decide (i ∈ found)) o6
      by_cases hz : (l.filter fun i => !decide (i ∈ found)) = []
      · -- nothing new: one turn more ends it
        rw [hz, List.append_nil] at body
        have test2 : evE c starTest [some (Re.star a).d, some (.str w), st, kd, some (.lst (inz found)), some (.lst (inz [])), o6] S = .ok (.bl false) S := by
          simp [starTest, ne_ints]
        have hdone2 : ∀ i ∈ found, ∀ j, Rl a w i j → j ∈ found := fun i hi j hr => by
          by_cases q : i ∈ fresh
          · have : j ∈ l := (he.iff j).mpr ⟨i, q, hr⟩
            by_cases q2 : j ∈ found
            · exact q2
            · have : j ∈ l.filter fun i => !decide (i ∈ found) := List.mem_filter.mpr ⟨this, by simp [q2]⟩
              rw [hz] at this
              cases this
          · exact hdone i hi q j hr
        refine ⟨2, found, _, while_go tT body (while_end test2), rfl, nd, hle, fun j => ⟨hcl j, ?_⟩⟩
        rintro ⟨i, hi, h⟩
        exact key hdone2 i j h (hs i hi)
      · have hpos : 1 ≤ (l.filter fun i => !decide (i ∈ found)).length := by
          cases q : (l.filter fun i => !decide (i ∈ found)) with
          | nil => exact absurd q hz
          | cons _ _ => simp
        obtain ⟨n, l', f', e1, e2, e3, e4, e5⟩ := nxt (by rw [List.length_append]; omega) nd2 le2 hl2 (fun i hi => List.mem_append_right _ hi) (fun i hi => List.mem_append_left _ (hs i hi)) (fun j hj => by
            rcases List.mem_append.mp hj with h | h
            · exact hcl j h
            · obtain ⟨i, hi, hr⟩ := (he.iff j).mp (List.mem_filter.mp h).1
              obtain ⟨i0, hi0, hc0⟩ := hcl i (hsub i hi)
              exact ⟨i0, hi0, hc0.snoc hr⟩) (fun i hi hn j hr => by
            rcases List.mem_append.mp hi with h | h
            · by_cases q : i ∈ fresh
              · have hj : j ∈ l := (he.iff j).mpr ⟨i, q, hr⟩
                by_cases q2 : j ∈ found
                · exact List.mem_append_left _ q2
                · exact List.mem_append_right _ (List.mem_filter.mpr ⟨hj, by simp [q2]⟩)
              · exact List.mem_append_left _ (hdone i h q j hr)
            · exact absurd h hn)
        exact ⟨n + 1, l', f', while_go tT body e1, e2, e3, e4, e5⟩
end SL
set_option Elab.async false
set_option linter.all false
set_option maxRecDepth 100000
set_option maxHeartbeats 2000000
/-! D4: the law's matcher, whole. -/
namespace SL
open PySem
variable {Φ : Nat → Option Def}
theorem ends_val (P : PhiM Φ) {w : List Nat} (hw : w.length ≤ 10000) : ∀ (r : Re) (N : Nat) (S : Sto), r.ht + 1 ≤ N → ∀ s : List Nat, s.Nodup → (∀ i ∈ s, i ≤ w.length) → ∃ l, callN Φ N 18 [r.d, .str w, .lst (inz s)] S = .ok (.lst (inz l)) S ∧ Ends r w s l := by
  have hsz : w.length ≤ sz := by show _ ≤ 16777216; omega
  intro r
  induction r with
  | none =>
    intro N S hN s nd hs
    obtain ⟨M, rfl, hM⟩ := pre_pos hN
    refine ⟨[], call_ret P.h18 ⟨rfl, by decide⟩ ?_, List.nodup_nil, fun j hj => (by cases hj), fun j => ⟨fun h => (by cases h), fun ⟨i, _, h⟩ => (Rl_none h).elim⟩⟩
    simp [f18_L_ends, start, Re.d, sub0, cmp_eq (eqD_str' _ _ S), inz]
  | empty =>
    intro N S hN s nd hs
    obtain ⟨M, rfl, hM⟩ := pre_pos hN
    refine ⟨s, call_ret P.h18 ⟨rfl, by decide⟩ ?_, nd, hs, fun j => ⟨fun h => ⟨j, h, (Rl_empty (hs j h)).mpr rfl⟩, fun ⟨i, hi, h⟩ => by rw [(Rl_empty (hs i hi)).mp h]; exact hi⟩⟩
    simp [f18_L_ends, start, Re.d, sub0, cmp_eq (eqD_str' _ _ S)]
  | sign c =>
    intro N S hN s nd hs
    obtain ⟨M, rfl, hM⟩ := pre_pos hN
    refine ⟨(s.filter fun i => decide ((w.drop i).take 1 = [c])).map (· + 1), call_ret P.h18 ⟨rfl, by decide⟩ ?_, filter_map_succ nd, fun j hj => ?_, fun j => ?_⟩
    · have cm : compD (.name 6) (evO (callN Φ M) (.yes (.cmp .eq (.slc (.var 1) (.yes (.var 6)) (.yes (.bin .add (.var 6) (.cst (.int 1))))) (.sub (.var 0) (.cst (.int 1)))))) (evE (callN Φ M) (.bin .add (.var 6) (.cst (.int 1)))) [6] [some (Re.sign c).d, some (.str w), some (.lst (inz s)), some (.str sSign), none, none, none] ⟨[], inz s⟩ S = .ok (.lst (inz ((s.filter fun i => decide ((w.drop i).take 1 = [c])).map (· + 1)))) S := by
        rw [compD_filter (fun d => match d with | .int i => decide ((w.drop i.toNat).take 1 = [c]) | _ => false) (fun d => match d with | .int i => .int ((i.toNat + 1 : Nat) : Int) | d => d) fun e he => ?_]
        · exact congrArg (fun z => Out.ok (D.lst z) S) (map_inz s fun i => decide ((w.drop i).take 1 = [c]))
        · obtain ⟨i, hi, rfl⟩ := List.mem_map.mp he
          exact step_sign (callN Φ M) (sub1 _ _ _ _) hsz (hs i hi)
      have cm' : compD (.name 6) (evO (callN Φ M) (.yes (.cmp .eq (.slc (.var 1) (.yes (.var 6)) (.yes (.bin .add (.var 6) (.cst (.int 1))))) (.sub (.var 0) (.cst (.int 1)))))) (evE (callN Φ M) (.bin .add (.var 6) (.cst (.int 1)))) [6] [some (.tup [.str sSign, .str [c]]), some (.str w), some (.lst (inz s)), some (.str sSign), none, none, none] ⟨[], inz s⟩ S = .ok (.lst (inz ((s.filter fun i => decide ((w.drop i).take 1 = [c])).map (· + 1)))) S := cm
      have st : start f18_L_ends [(Re.sign c).d, .str w, .lst (inz s)] = [some (.tup [.str sSign, .str [c]]), some (.str w), some (.lst (inz s)), none, none, none, none] := rfl
      rw [st]
      simp [f18_L_ends, sub0, cmp_eq (eqD_str' _ _ S), cm']
    · obtain ⟨i, hi, rfl⟩ := List.mem_map.mp hj
      obtain ⟨h1, h2⟩ := List.mem_filter.mp hi
      exact (Rl_sign.mpr ⟨rfl, of_decide_eq_true h2⟩).2.1
    · rw [List.mem_map]
      constructor
      · rintro ⟨i, hi, rfl⟩
        obtain ⟨h1, h2⟩ := List.mem_filter.mp hi
        exact ⟨i, h1, Rl_sign.mpr ⟨rfl, of_decide_eq_true h2⟩⟩
      · rintro ⟨i, hi, h⟩
        obtain ⟨rfl, h2⟩ := Rl_sign.mp h
        exact ⟨i, List.mem_filter.mpr ⟨hi, decide_eq_true h2⟩, rfl⟩
  | or a b iha ihb =>
    intro N S hN s nd hs
    obtain ⟨M, rfl, hM⟩ := pre_pos hN
    simp only [Re.ht] at hM
    obtain ⟨la, ca, ea⟩ := iha M S (by omega) s nd hs
    obtain ⟨lb, cb, eb⟩ := ihb M S (by omega) s nd hs
    have n1 := nodup_len ea.nd ea.le
    have n2 := nodup_len eb.nd eb.le
    have hl : (la ++ lb).length ≤ sz := by rw [List.length_append]; show _ ≤ 16777216; omega
    have on := once_val P.h19 (N := M) (S := S) hl (by omega)
    refine ⟨dd [] (la ++ lb), call_ret P.h18 ⟨rfl, by decide⟩ ?_, nodup_dd _ _ List.nodup_nil, fun j hj => ?_, fun j => ?_⟩
    · have ad : binD .add (.lst (inz la)) (.lst (inz lb)) S = .ok (.lst (inz (la ++ lb))) S := by
        have : (inz la).length + (inz lb).length ≤ sz := by simp only [inz, List.length_map]; rw [← List.length_append]; exact hl
        simp only [binD, items, if_pos this, ints_app]
      simp [f18_L_ends, start, Re.d, sub0, sub1, sub2, cmp_eq (eqD_str' _ _ S), ca, cb, ad, on]
    · rcases List.mem_append.mp ((mem_dd _ _ _).mp hj |>.resolve_left (by simp)) with h | h
      · exact ea.le j h
      · exact eb.le j h
    · rw [mem_dd]
      simp only [List.not_mem_nil, false_or, List.mem_append, ea.iff, eb.iff]
      constructor
      · rintro (⟨i, hi, h⟩ | ⟨i, hi, h⟩)
        · exact ⟨i, hi, Rl_or.mpr (.inl h)⟩
        · exact ⟨i, hi, Rl_or.mpr (.inr h)⟩
      · rintro ⟨i, hi, h⟩
        rcases Rl_or.mp h with h | h
        · exact .inl ⟨i, hi, h⟩
        · exact .inr ⟨i, hi, h⟩
  | thn a b iha ihb =>
    intro N S hN s nd hs
    obtain ⟨M, rfl, hM⟩ := pre_pos hN
    simp only [Re.ht] at hM
    obtain ⟨la, ca, ea⟩ := iha M S (by omega) s nd hs
    obtain ⟨lb, cb, eb⟩ := ihb M S (by omega) la ea.nd ea.le
    refine ⟨lb, call_ret P.h18 ⟨rfl, by decide⟩ ?_, eb.nd, eb.le, fun j => ?_⟩
    · simp [f18_L_ends, start, Re.d, sub0, sub1, sub2, cmp_eq (eqD_str' _ _ S), ca, cb]
    · rw [eb.iff]
      constructor
      · rintro ⟨k, hk, h⟩
        obtain ⟨i, hi, h2⟩ := (ea.iff k).mp hk
        exact ⟨i, hi, Rl_thn.mpr ⟨k, h2, h⟩⟩
      · rintro ⟨i, hi, h⟩
        obtain ⟨k, h1, h2⟩ := Rl_thn.mp h
        exact ⟨k, (ea.iff k).mpr ⟨i, hi, h1⟩, h2⟩
  | star a iha =>
    intro N S hN s nd hs
    obtain ⟨M, rfl, hM⟩ := pre_pos hN
    simp only [Re.ht] at hM
    obtain ⟨n, l, f', e1, e2, e3, e4, e5⟩ := star_loop (c := callN Φ M) (a := a) (w := w) (S := S) (st := some (.lst (inz s))) (kd := some (.str sStar)) hw (fun s' nd' hs' => iha M S (by omega) s' nd' hs') s (w.length + 2) s s none (by omega) nd hs nd (fun i h => h) (fun i h => h) (fun j h => ⟨j, h, .refl _⟩) (fun i h q => absurd h q)
    refine ⟨l, call_ret P.h18 ⟨rfl, by decide⟩ ?_, e3, e4, fun j => ?_⟩
    · have wl := whl_of e1
      have st : start f18_L_ends [(Re.star a).d, .str w, .lst (inz s)] = [some (.tup [.str sStar, a.d]), some (.str w), some (.lst (inz s)), none, none, none, none] := rfl
      rw [st]
      have wl' : whl (evE (callN Φ M) (.cmp .ne (.var 5) (.lst .nil))) (evSs (callN Φ M) starBody) [some (.tup [.str sStar, a.d]), some (.str w), some (.lst (inz s)), some (.str sStar), some (.lst (inz s)), some (.lst (inz s)), none] S = .nx f' S := wl
      unfold starBody at wl'
      simp [f18_L_ends, sub0, cmp_eq (eqD_str' _ _ S), evS_whl, wl', e2]
    · rw [e5]
      constructor
      · rintro ⟨i, hi, h⟩
        exact ⟨i, hi, (Rl_star (hs i hi)).mpr h⟩
      · rintro ⟨i, hi, h⟩
        exact ⟨i, hi, (Rl_star (hs i hi)).mp h⟩
open Classical in
theorem tells_val (P : PhiM Φ) {w : List Nat} (hw : w.length ≤ 10000) (r : Re) {N : Nat} {S : Sto} (hN : r.ht + 2 ≤ N) : callN Φ N 20 [r.d, .str w] S = .ok (.bl (decide (M r w))) S := by
  have hsz : w.length ≤ sz := by show _ ≤ 16777216; omega
  obtain ⟨K, rfl, hK⟩ := pre_pos (k := r.ht + 1) hN
  obtain ⟨l, hc, he⟩ := ends_val P hw r K S hK [0] (by simp) (fun i hi => by rw [List.mem_singleton.mp hi]; omega)
  refine call_ret P.h20 ⟨rfl, by decide⟩ ?_
  have e : decide (w.length ∈ l) = decide (M r w) := by
    have : (w.length ∈ l) ↔ M r w := by
      rw [he.iff]
      constructor
      · rintro ⟨i, hi, h⟩
        rw [List.mem_singleton.mp hi] at h
        have := h.2.2
        simpa [seg] using this
      · exact fun h => ⟨0, by simp, Nat.zero_le _, Nat.le_refl _, by simpa [seg] using h⟩
    by_cases q : M r w
    · simp [q, this.mpr q]
    · have q2 : ¬ w.length ∈ l := fun z => q (this.mp z)
      simp [q, q2]
  have hc' : callN Φ K 18 [r.d, .str w, .lst [.int 0]] S = .ok (.lst (inz l)) S := hc
  simp [f20_L_tells, start, len_str w hsz, hc', cmp_in (in_ints w.length l S), e]
end SL
set_option Elab.async false
set_option linter.all false
set_option maxRecDepth 100000
set_option maxHeartbeats 2000000
/-! D5: law k01's look at one thing. -/
namespace SL
open PySem
variable {Φ : Nat → Option Def}
theorem cmp_eq_bl (a b : Bool) (S : Sto) : cmpD .eq (.bl a) (.bl b) S = .ok (.bl (a == b)) S := by
  rw [cmp_eq (eqD_dt Dt.bl Dt.bl S)]
  cases a <;> cases b <;> rfl
theorem cmp_ne_bl (a b : Bool) (S : Sto) : cmpD .ne (.bl a) (.bl b) S = .ok (.bl (!(a == b))) S := by
  rw [cmp_ne (eqD_dt Dt.bl Dt.bl S)]
  cases a <;> cases b <;> rfl
theorem flat_one (l : List Nat) : joined [] (l.map fun c => [c]) = l := by
  rw [joined_nil]
  induction l with
  | nil => rfl
  | cons a l ih => simp [ih]
def ofSigs (w : List Nat) : List Nat := sigs.filter fun c => decide (c ∈ w)
theorem ofSigs_len (w : List Nat) : (ofSigs w).length ≤ 8 := List.length_filter_le _ _
theorem join_sigs (w : List Nat) (S : Sto) : mthD .join (.str []) [.lst ((ofSigs w).map fun c => .str [c])] S = .ok (.str (ofSigs w)) S := by
  have hs : (((ofSigs w).map fun c => [c]).map List.length).sum ≤ 8 := by
    have : ∀ l : List Nat, ((l.map fun c => [c]).map List.length).sum = l.length := fun l => by
      induction l with
      | nil => rfl
      | cons a l ih => simp only [List.map_cons, List.sum_cons, ih, List.length_cons, List.length_nil]; omega
    rw [this]
    exact ofSigs_len w
  simp only [mthD, seqOf, items, texts_map]
  rw [if_pos, flat_one]
  simp only [List.length_nil, Nat.mul_zero, Nat.add_zero]
  show _ ≤ 16777216
  omega
theorem once_sigs (h7 : Φ 7 = some f7_signs_once) {w : List Nat} {N : Nat} {S : Sto} (hN : 1 ≤ N) : callN Φ N 7 [.str w] S = .ok (.str (ofSigs w)) S := by
  obtain ⟨n, rfl, _⟩ := pre_pos (k := 0) hN
  have cm : compD (.name 1) (evO (callN Φ n) (.yes (.cmp .isin (.var 1) (.var 0)))) (evE (callN Φ n) (.var 1)) [1] [some (.str w), none] ⟨[], sigs.map fun c => .str [c]⟩ S = .ok (.lst ((ofSigs w).map fun c => .str [c])) S := by
    rw [compD_filter (fun e => match e with | .str [c] => decide (c ∈ w) | _ => false) id fun e he => ?_]
    · rw [List.map_id, List.filter_map]; rfl
    · obtain ⟨c, _, rfl⟩ := List.mem_map.mp he
      exact step_yes rfl (by simp [wipe, cmp_in (inD_sign _ _ _)]) (fun _ => by simp [wipe])
  have hv : valD (.str [97, 98, 99, 100, 101, 102, 103, 104]) S = .ok ⟨[], sigs.map fun c => .str [c]⟩ S := val_str _ (by decide) S
  refine call_ret h7 ⟨rfl, by decide⟩ ?_
  have st : start f7_signs_once [.str w] = [some (.str w), none] := rfl
  rw [st]
  simp only [f7_signs_once, evSs_cons, evS_ret, ev_mth, ev_cst, Out.ok_bind, mthX, recv, mtTxt, if_true, evs_cons, evs_nil, ev_comp, evi_val, ev_glo0, hv, cm, join_sigs, Out.so_ok, thenS_ret]
structure Phi26 (Φ : Nat → Option Def) : Prop where
  p2 : Phi2 Φ
  p3 : Phi3 Φ
  p6 : Phi6 Φ
  pm : PhiM Φ
  h4 : Φ 4 = some f4_is_pattern
  h25 : Φ 25 = some f25_L_signs
  h26 : Φ 26 = some f26_L_good
theorem is_pattern_val (P : Phi26 Φ) {m : Nat} {d : D} (h : Sm m d) {N : Nat} {S : Sto} (hN : m + 3 ≤ N) : callN Φ N 4 [d] S = .ok (.bl (isP d)) S := by
  obtain ⟨n, rfl⟩ : ∃ n, N = n + m + 2 + 1 := ⟨N - m - 3, by omega⟩
  have r := right_pattern P.p2 m d h.dt h.dep (Nat.le_trans h.wt (by decide)) n S
  exact call_ret P.h4 ⟨rfl, by decide⟩ (by simp [f4_is_pattern, start, r])
theorem good_ok (P : Phi26 Φ) {m : Nat} {d : D} (h : Sm m d) (hm : m ≤ 20) {N : Nat} {S : Sto} (hN : m + 7 ≤ N) : callN Φ N 26 [d] S = .ok (.bl true) S := by
  obtain ⟨K, rfl, hK⟩ := pre_pos (k := m + 6) hN
  have v4 := is_pattern_val P h (N := K) (S := S) (by omega)
  have v22 : callN Φ K 22 [d] S = .ok (.bl (isP d)) S := by
    obtain ⟨n, rfl⟩ : ∃ n, K = n + m + 2 := ⟨K - m - 2, by omega⟩
    exact law_pattern P.p3 m d h.dt h.dep (Nat.le_trans h.wt (by decide)) n S
  have rp := h.repr S
  refine call_ret P.h26 ⟨rfl, by decide⟩ ?_
  cases hp : isP d with
  | false =>
    rw [hp] at v4 v22
    simp [f26_L_good, start, rp, v22, v4, isTy, cmp_ne_bl, cmp_ne (eqD_str' _ _ S)]
  | true =>
    rw [hp] at v4 v22
    obtain ⟨r, rfl, hr⟩ := isP_re m d h.dep hp
    have ht : r.ht ≤ m := by rw [← Re.depth_eq]; exact h.dep
    have v25 := signs_gen P.h25 rfl r (by omega) K S (by omega)
    have v6 : ∀ N, r.ht + 1 ≤ N → callN Φ N 6 [r.d] S = .ok (.str r.sgn) S := fun N hN => signs_val P.p6.h6 (by omega) hN
    have v3 : ∀ N, m + 3 ≤ N → callN Φ N 3 [r.d] S = .ok .non S := fun N hN => by
      obtain ⟨n, rfl⟩ : ∃ n, N = n + m + 3 := ⟨N - m - 3, by omega⟩
      exact look_yes P.p2 P.p6 h hp S
    have v8 : callN Φ K 8 [r.d] S = .ok (.str (ofSigs r.sgn)) S := by
      obtain ⟨L, rfl, hL⟩ := pre_pos (k := m + 5) hK
      exact call_ret P.p6.h8 ⟨rfl, by decide⟩ (by simp [f8_signs_of, start, v3 L (by omega), v6 L (by omega), once_sigs P.p6.h7 (N := L) (S := S) (w := r.sgn) (by omega)])
    have v10 : callN Φ K 10 [r.d] S = .ok (.bl r.nul) S := by
      obtain ⟨L, rfl, hL⟩ := pre_pos (k := m + 5) hK
      exact call_ret P.p6.h10 ⟨rfl, by decide⟩ (by simp [f10_has_empty, start, v3 L (by omega), empties_val P.p6.h9 r L S (by omega)])
    have v20 : callN Φ K 20 [r.d, .str []] S = .ok (.bl r.nul) S := by
      classical
      rw [tells_val P.pm (w := []) (by simp) r (by omega)]
      have e : decide (M r []) = r.nul := by
        cases q : r.nul with
        | true => exact decide_eq_true ((nul_M r).mp q)
        | false => exact decide_eq_false fun z => by rw [(nul_M r).mpr z] at q; cases q
      rw [e]
    have hv : valD (.str [97, 98, 99, 100, 101, 102, 103, 104]) S = .ok ⟨[], sigs.map fun c => .str [c]⟩ S := val_str _ (by decide) S
    have cm : ∀ a b c e, compD (.name 6) (evO (callN Φ K) (.yes (.cmp .isin (.var 6) (.var 4)))) (evE (callN Φ K) (.var 6)) [6] [a, b, c, e, some (.str r.sgn), none, none] ⟨[], sigs.map fun c => .str [c]⟩ S = .ok (.lst ((ofSigs r.sgn).map fun c => .str [c])) S := fun a b c' e' => by
      rw [compD_filter (fun e => match e with | .str [c] => decide (c ∈ r.sgn) | _ => false) id fun e he => ?_]
      · rw [List.map_id, List.filter_map]; rfl
      · obtain ⟨c, _, rfl⟩ := List.mem_map.mp he
        exact step_yes rfl (by simp [wipe, cmp_in (inD_sign _ _ _)]) (fun _ => by simp [wipe])
    have cm2 : ∀ a b c e, compD (.name 6) (evO (callN Φ K) (.yes (.cmp .isin (.var 6) (.var 4)))) (evE (callN Φ K) (.var 6)) [6] [a, b, c, e, some (.str r.sgn), none, none] ⟨[], [.str [97], .str [98], .str [99], .str [100], .str [101], .str [102], .str [103], .str [104]]⟩ S = .ok (.lst ((ofSigs r.sgn).map fun c => .str [c])) S := cm
    have hv2 : valD (.str [97, 98, 99, 100, 101, 102, 103, 104]) S = .ok ⟨[], [.str [97], .str [98], .str [99], .str [100], .str [101], .str [102], .str [103], .str [104]]⟩ S := hv
    have st : start f26_L_good [r.d] = [some r.d, none, none, none, none, none, none] := rfl
    rw [st]
    have e1 : ∀ b : Bool, isTy S .bool (.bl b) = some true := fun _ => rfl
    simp [f26_L_good, rp, v22, v4, e1, cmp_ne_bl, cmp_eq_bl, cmp_ne (eqD_str' _ _ S), cmp_eq (eqD_str' _ _ S), v25, v8, hv2, cm2, mthX, recv, mtTxt, join_sigs, v10, v20]
end SL
set_option Elab.async false
set_option linter.all false
set_option maxRecDepth 100000
set_option maxHeartbeats 2000000
/-! D6: bent patterns. -/
namespace SL
open PySem
variable {Φ : Nat → Option Def}
/-- only the pile is drawn from -/
structure Ef (S S' : Sto) (k : Nat) : Prop where
  len : S'.length = S.length
  out : ∀ i, i ≠ k → S'[i]? = S[i]?
  pile : ∃ p : Int, S'[k]? = some (.lst [.int p])
theorem Ef.trans {S S1 S2 : Sto} {k : Nat} (a : Ef S S1 k) (b : Ef S1 S2 k) : Ef S S2 k := ⟨b.len.trans a.len, fun i h => (b.out i h).trans (a.out i h), b.pile⟩
theorem Ef.refl {S : Sto} {k : Nat} {p : Int} (h : S[k]? = some (.lst [.int p])) : Ef S S k := ⟨rfl, fun _ _ => rfl, p, h⟩
theorem Ef.set {S : Sto} {k : Nat} {p q : Int} (h : S[k]? = some (.lst [.int p])) : Ef S (S.set k (.lst [.int q])) k :=
  ⟨by rw [List.length_set], fun i hi => by rw [List.getElem?_set_ne (Ne.symm hi)], q, List.getElem?_set_self (List.getElem?_eq_some_iff.mp h).1⟩
theorem take_ef (P : PhiD Φ) {N k : Nat} {m : Int} {S0 S : Sto} (e : Ef S0 S k) (h1 : 0 < m) (h2 : m < 1073741824) (hN : 1 ≤ N) : ∃ (t : Int) (S2 : Sto), callN Φ N 13 [.ref k, .int m] S = .ok (.int t) S2 ∧ 0 ≤ t ∧ t < m ∧ Ef S0 S2 k := by
  obtain ⟨n, rfl, _⟩ := pre_pos (k := 0) hN
  obtain ⟨p, hp⟩ := e.pile
  exact ⟨_, _, take_ok P hp h1 h2, Int.emod_nonneg _ (by omega), Int.emod_lt_of_pos _ h1, e.trans (.set hp)⟩
theorem gc_ef {S S' : Sto} {k : Nat} (d : D) (h : Ef S S' k) : gc S d S' = S' := gc_len d h.len
theorem pick_lst {l : List D} {t : Int} (h0 : 0 ≤ t) (h1 : t < l.length) (S : Sto) : ∃ d ∈ l, subD (.lst l) (.int t) S = .ok d S := by
  have hl : t.toNat < l.length := by omega
  refine ⟨l[t.toNat], List.getElem_mem hl, ?_⟩
  have e : placeOf t l.length = some t.toNat := by
    unfold placeOf
    rw [if_pos h0, if_pos h1]
  simp only [subD, seqOf, items, e, List.getElem?_eq_getElem hl]
structure Phi24 (Φ : Nat → Option Def) : Prop where
  d : PhiD Φ
  h23 : Φ 23 = some f23_L_bad_patterns
  h24 : Φ 24 = some f24_L_bent
abbrev odds (ds : List D) : List D := ((((od0 ds ++ od1 ds) ++ od2 ds) ++ od3 ds) ++ od4 ds) ++ od5 ds
theorem odds_len (ds : List D) : (odds ds).length = 41 := rfl
theorem in_three {s : List Nat} (hs : Dt (.str s)) (S : Sto) : cmpD .isin (.str s) (.lst [.str sOr, .str sThen, .str sStar]) S = .ok (.bl (decide (s = sOr) || (decide (s = sThen) || decide (s = sStar)))) S := by
  rw [cmp_in (inD_lst hs (fun d hd => by
    simp only [List.mem_cons, List.not_mem_nil, or_false] at hd
    rcases hd with rfl | rfl | rfl <;> exact dts rfl) S)]
  simp only [toPs, toP, List.any_cons, List.any_nil, PyData.eqv, str_beq, Bool.or_false]
  simp [eq_comm]
/-- behind the draw: one of the odd things -/
theorem bent_odd (P : Phi24 Φ) {N k : Nat} {x : D} {S0 S : Sto} {o : Option D} (hx : Pt 4 x) (e : Ef S0 S k) (hN : 1 ≤ N) : ∃ d S', evSs (callN Φ N) (.cons (.asg (.name 2) (.call 23 (.cons (.var 1) .nil))) (.cons (.ret (.sub (.var 2) (.call 13 (.cons (.var 0) (.cons (.blt .len (.cons (.var 2) .nil)) .nil))))) .nil)) [some (.ref k), some x, none, o] S = .ret d S' ∧ Ef S0 S' k ∧ Sq 8 5000 d := by
  obtain ⟨ds, rfl, hl, hq, hs⟩ := hx.sq
  obtain ⟨n, rfl, _⟩ := pre_pos (k := 0) hN
  have b := bad_ok P.h23 (n := n) hl S
  obtain ⟨t, S2, ht, h0, h1, e2⟩ := take_ef P.d (N := n + 1) (m := 41) e (by decide) (by decide) (by omega)
  obtain ⟨d, hd, hsub⟩ := pick_lst (l := odds ds) h0 (by rw [odds_len]; exact h1) S2
  refine ⟨d, S2, ?_, e2, bad_sq hq hs d hd⟩
  have hlen : bltD .len [.lst (odds ds)] S = .ok (.int 41) S := by
    show Out.ok (D.int ((odds ds).length : Nat)) S = _
    rw [odds_len]; rfl
  simp only [evSs_cons, evS_asg, ev_call, evs_cons, ev_var, getS_succ, getS_zero, Out.ok_bind, evs_nil, b, Out.so_ok, asg_name, setAt_succ, setAt_zero, thenS_nx, evS_ret, ev_sub, ev_blt, hlen, ht, hsub, thenS_ret]
theorem add_tup {x y : List D} (h : x.length + y.length ≤ 100) (S : Sto) : binD .add (.tup x) (.tup y) S = .ok (.tup (x ++ y)) S := by
  simp only [binD]
  rw [if_pos]
  show _ ≤ 16777216
  omega
theorem slc_tup (ds : List D) (l h : Option Int) (S : Sto) : slcD (.tup ds) l h S = .ok (.tup (cut ds l h)) S := rfl
theorem sub_tup {ds : List D} {t : Int} {k : Nat} {d : D} (h1 : placeOf t ds.length = some k) (h2 : ds[k]? = some d) (S : Sto) : subD (.tup ds) (.int t) S = .ok d S := by
  simp only [subD, seqOf, h1, h2]
theorem Pt.star_part {x : D} (h : Pt 4 (.tup [.str sStar, x])) (hp : isP x = true) : Pt 4 x := by
  have := h.dep
  have w := h.wt
  have f := h.fl
  have l := h.lay
  have s1 := h.sh
  have s2 := h.si
  simp only [toP, toPs, PyData.depth, PyData.depthAll] at this
  simp [toP, toPs, PyData.weight, PyData.weightAll] at w
  simp [flat, flats] at f
  simp [toP, toPs, PyData.canLay0, PyData.canLayAll0] at l
  simp [toP, toPs, PyData.showable, PyData.showableAll] at s1
  simp [toP, toPs, PyData.intsShort, PyData.intsShortAll] at s2
  exact ⟨hp, f, l.2, by omega, by omega, s1, s2⟩
theorem Pt.two_parts {s : List Nat} {x y : D} (h : Pt 4 (.tup [.str s, x, y])) (hp : isP x = true) (hq : isP y = true) : Pt 4 x ∧ Pt 4 y := by
  have := h.dep
  have w := h.wt
  have f := h.fl
  have l := h.lay
  have s1 := h.sh
  have s2 := h.si
  simp only [toP, toPs, PyData.depth, PyData.depthAll] at this
  simp [toP, toPs, PyData.weight, PyData.weightAll] at w
  simp [flat, flats] at f
  simp [toP, toPs, PyData.canLay0, PyData.canLayAll0] at l
  simp [toP, toPs, PyData.showable, PyData.showableAll] at s1
  simp [toP, toPs, PyData.intsShort, PyData.intsShortAll] at s2
  exact ⟨⟨hp, f.1, l.2.1, by omega, by omega, s1.1, s2.1⟩, ⟨hq, f.2, l.2.2, by omega, by omega, s1.2, s2.2⟩⟩
theorem Re.isP : ∀ r : Re, r.ok → SL.isP r.d = true
  | .none, _ => by decide
  | .empty, _ => by decide
  | .sign c, h => by
    have : c ∈ sigs := h
    have t2 : decide (c ∈ sigs) = true := decide_eq_true this
    simp only [Re.d, SL.isP, isPt, isW, one, List.all_cons, List.all_nil, t2]
    rfl
  | .or a b, h => by simp [Re.d, SL.isP, isPt, Re.isP a h.1, Re.isP b h.2]
  | .thn a b, h => by simp [Re.d, SL.isP, isPt, Re.isP a h.1, Re.isP b h.2]
  | .star a, h => by simp [Re.d, SL.isP, isPt, Re.isP a h]
def bentTail : Ss := .cons (.asg (.name 2) (.call 23 (.cons (.var 1) .nil))) (.cons (.ret (.sub (.var 2) (.call 13 (.cons (.var 0) (.cons (.blt .len (.cons (.var 2) .nil)) .nil))))) .nil)
def bentHead : Ss := .cons (.asg (.name 3) (.bin .add (.cst (.int 1)) (.call 13 (.cons (.var 0) (.cons (.bin .sub (.blt .len (.cons (.var 1) .nil)) (.cst (.int 1))) .nil))))) (.cons (.ret (.bin .add (.bin .add (.slc (.var 1) .no (.yes (.var 3))) (.tup (.cons (.call 24 (.cons (.var 0) (.cons (.sub (.var 1) (.var 3)) .nil))) .nil))) (.slc (.var 1) (.yes (.bin .add (.var 3) (.cst (.int 1)))) .no))) .nil)
def bentTest : E := .and (.cmp .isin (.sub (.var 1) (.cst (.int 0))) (.lst (.cons (.cst (.str sOr)) (.cons (.cst (.str sThen)) (.cons (.cst (.str sStar)) .nil))))) (.cmp .gt (.call 13 (.cons (.var 0) (.cons (.cst (.int 3)) .nil))) (.cst (.int 0)))
theorem bent_body : f24_L_bent.body = .cons (.ifs bentTest bentHead .nil) bentTail := rfl
theorem bent_leaf (P : Phi24 Φ) {k : Nat} {s : List Nat} {rest : List D} (hs : Dt (.str s)) (hn : (decide (s = sOr) || (decide (s = sThen) || decide (s = sStar))) = false) (hx : Pt 4 (.tup (.str s :: rest))) {N : Nat} {S0 S : Sto} (hN : 2 ≤ N) (e : Ef S0 S k) : ∃ d S', callN Φ N 24 [.ref k, .tup (.str s :: rest)] S = .ok d S' ∧ Ef S0 S' k ∧ Sq 8 5000 d := by
  obtain ⟨M, rfl, hM⟩ := pre_pos (k := 1) hN
  obtain ⟨d, S', go, e', q⟩ := bent_odd P (o := none) hx e hM
  have go : evSs (callN Φ M) bentTail [some (.ref k), some (.tup (.str s :: rest)), none, none] S = .ret d S' := go
  refine ⟨d, S', ?_, e', q⟩
  rw [call_ret' P.h24 ⟨rfl, by decide⟩ (S' := S') (r := d), ]
  · obtain ⟨p, hp⟩ := e.pile
    have : Ef S S' k := ⟨e'.len.trans e.len.symm, fun i hi => (e'.out i hi).trans (e.out i hi).symm, e'.pile⟩
    rw [gc_ef d this]
  · have st : start f24_L_bent [.ref k, .tup (.str s :: rest)] = [some (.ref k), some (.tup (.str s :: rest)), none, none] := rfl
    rw [st, bent_body]
    simp [bentTest, sub0, in_three hs, hn, go]
theorem bent_node (P : Phi24 Φ) {k : Nat} {s : List Nat} {rest : List D} (hs : Dt (.str s)) (hn : (decide (s = sOr) || (decide (s = sThen) || decide (s = sStar))) = true) (hx : Pt 4 (.tup (.str s :: rest))) {N w : Nat} {S0 S : Sto} (hN : 2 ≤ N) (e : Ef S0 S k)
    (hw : 5000 ≤ w) {a : Nat} (ha : 8 ≤ a) (inner : ∀ S1, Ef S0 S1 k → ∃ d S', evSs (callN Φ (N - 1)) bentHead [some (.ref k), some (.tup (.str s :: rest)), none, none] S1 = .ret d S' ∧ Ef S0 S' k ∧ Sq a w d) : ∃ d S', callN Φ N 24 [.ref k, .tup (.str s :: rest)] S = .ok d S' ∧ Ef S0 S' k ∧ Sq a w d := by
  obtain ⟨M, rfl, hM⟩ := pre_pos (k := 1) hN
  obtain ⟨t, S1, ht, h0, h1, e1⟩ := take_ef P.d (N := M) (m := 3) e (by decide) (by decide) hM
  have fin : ∀ d S', Ef S0 S' k → evSs (callN Φ M) f24_L_bent.body (start f24_L_bent [.ref k, .tup (.str s :: rest)]) S = .ret d S' → callN Φ (M + 1) 24 [.ref k, .tup (.str s :: rest)] S = .ok d S' := fun d S' e' go => by
    rw [call_ret' P.h24 ⟨rfl, by decide⟩ go]
    have : Ef S S' k := ⟨e'.len.trans e.len.symm, fun i hi => (e'.out i hi).trans (e.out i hi).symm, e'.pile⟩
    rw [gc_ef d this]
  have st : start f24_L_bent [.ref k, .tup (.str s :: rest)] = [some (.ref k), some (.tup (.str s :: rest)), none, none] := rfl
  by_cases h : 0 < t
  · obtain ⟨d, S', go, e', q⟩ := inner S1 e1
    refine ⟨d, S', fin d S' e' ?_, e', q⟩
    have go : evSs (callN Φ M) bentHead [some (.ref k), some (.tup (.str s :: rest)), none, none] S1 = .ret d S' := go
    rw [st, bent_body]
    simp [bentTest, sub0, in_three hs, hn, ht, h, go]
  · obtain ⟨d, S', go, e', q⟩ := bent_odd P (o := none) hx e1 hM
    have go : evSs (callN Φ M) bentTail [some (.ref k), some (.tup (.str s :: rest)), none, none] S1 = .ret d S' := go
    refine ⟨d, S', fin d S' e' ?_, e', (q.up ha).wd hw⟩
    rw [st, bent_body]
    simp [bentTest, sub0, in_three hs, hn, ht, h, go]
theorem bent_ok (P : Phi24 Φ) {k : Nat} : ∀ (r : Re), r.ok → Pt 4 r.d → ∀ (N : Nat) (S0 S : Sto), r.ht + 2 ≤ N → Ef S0 S k → ∃ d S', callN Φ N 24 [.ref k, r.d] S = .ok d S' ∧ Ef S0 S' k ∧ Sq (8 + r.ht) (5000 + 1000 * r.ht) d := by
  intro r
  induction r with
  | none =>
    intro _ hx N S0 S hN e
    obtain ⟨d, S', h1, h2, h3⟩ := bent_leaf P (N := N) (s := sNone) (rest := []) (dts rfl) rfl hx (by simp only [Re.ht] at hN; omega) e
    exact ⟨d, S', h1, h2, (h3.up (by omega)).wd (by omega)⟩
  | empty =>
    intro _ hx N S0 S hN e
    obtain ⟨d, S', h1, h2, h3⟩ := bent_leaf P (N := N) (s := sEmpty) (rest := []) (dts rfl) rfl hx (by simp only [Re.ht] at hN; omega) e
    exact ⟨d, S', h1, h2, (h3.up (by omega)).wd (by omega)⟩
  | sign c =>
    intro _ hx N S0 S hN e
    obtain ⟨d, S', h1, h2, h3⟩ := bent_leaf P (N := N) (s := sSign) (rest := [.str [c]]) (dts rfl) rfl hx (by simp only [Re.ht] at hN; omega) e
    exact ⟨d, S', h1, h2, (h3.up (by omega)).wd (by omega)⟩
  | star a ih =>
    intro ho hx N S0 S hN e
    simp only [Re.ht] at hN ⊢
    have hp := Re.isP a ho
    have xa := hx.star_part hp
    refine bent_node P (s := sStar) (rest := [a.d]) (dts rfl) rfl hx (by omega) e (by omega) (by omega) fun S1 e1 => ?_
    obtain ⟨t, S2, ht, h0, h1, e2⟩ := take_ef P.d (N := N - 1) (m := 1) e1 (by decide) (by decide) (by omega)
    have t0 : t = 0 := by omega
    subst t0
    obtain ⟨d, S3, hc, e3, q⟩ := ih ho xa (N - 1) S0 S2 (by omega) e2
    refine ⟨.tup [.str sStar, d], S3, ?_, e3, ?_⟩
    · have ad := fun (x y : List D) (h : x.length + y.length ≤ 100) => add_tup h S3
      have len2 : bltD .len [.tup [.str sStar, a.d]] S1 = .ok (.int 2) S1 := rfl
      have sub : binD .sub (.int 2) (.int 1) S1 = .ok (.int 1) S1 := rfl
      simp [bentHead, len2, sub, ht, binD, slc_tup, cut, cutAt, sub1, hc]
    · exact ((sq_tup (sql_cons ((sq_str (s := sStar) rfl)) (sql_cons q sql_nil))).up (by omega)).wd (by simp; omega)
  | or a b iha ihb =>
    intro ho hx N S0 S hN e
    simp only [Re.ht] at hN ⊢
    have hpa := Re.isP a ho.1
    have hpb := Re.isP b ho.2
    obtain ⟨xa, xb⟩ := hx.two_parts hpa hpb
    obtain ⟨_, _, _, qa, _⟩ := xa.sq
    obtain ⟨_, _, _, qb, _⟩ := xb.sq
    refine bent_node P (s := sOr) (rest := [a.d, b.d]) (dts rfl) rfl hx (by omega) e (by omega) (by omega) fun S1 e1 => ?_
    obtain ⟨t, S2, ht, h0, h1, e2⟩ := take_ef P.d (N := N - 1) (m := 2) e1 (by decide) (by decide) (by omega)
    have len2 : bltD .len [.tup [.str sOr, a.d, b.d]] S1 = .ok (.int 3) S1 := rfl
    have sub : binD .sub (.int 3) (.int 1) S1 = .ok (.int 2) S1 := rfl
    have t01 : t = 0 ∨ t = 1 := by omega
    rcases t01 with rfl | rfl
    · obtain ⟨d, S3, hc, e3, q⟩ := iha ho.1 xa (N - 1) S0 S2 (by omega) e2
      refine ⟨.tup [.str sOr, d, b.d], S3, ?_, e3, ?_⟩
      · simp [bentHead, len2, sub, ht, binD, slc_tup, cut, cutAt, sub1, hc]
      · exact ((sq_tup (sql_cons ((sq_str (s := sOr) rfl)) (sql_cons (q.up (b := 8 + max a.ht b.ht) (by omega)) (sql_cons (qb.up (by omega)) sql_nil)))).up (by omega)).wd (by simp; omega)
    · obtain ⟨d, S3, hc, e3, q⟩ := ihb ho.2 xb (N - 1) S0 S2 (by omega) e2
      refine ⟨.tup [.str sOr, a.d, d], S3, ?_, e3, ?_⟩
      · simp [bentHead, len2, sub, ht, binD, slc_tup, cut, cutAt, sub2, hc]
      · exact ((sq_tup (sql_cons ((sq_str (s := sOr) rfl)) (sql_cons (qa.up (b := 8 + max a.ht b.ht) (by omega)) (sql_cons (q.up (by omega)) sql_nil)))).up (by omega)).wd (by simp; omega)
  | thn a b iha ihb =>
    intro ho hx N S0 S hN e
    simp only [Re.ht] at hN ⊢
    have hpa := Re.isP a ho.1
    have hpb := Re.isP b ho.2
    obtain ⟨xa, xb⟩ := hx.two_parts hpa hpb
    obtain ⟨_, _, _, qa, _⟩ := xa.sq
    obtain ⟨_, _, _, qb, _⟩ := xb.sq
    refine bent_node P (s := sThen) (rest := [a.d, b.d]) (dts rfl) rfl hx (by omega) e (by omega) (by omega) fun S1 e1 => ?_
    obtain ⟨t, S2, ht, h0, h1, e2⟩ := take_ef P.d (N := N - 1) (m := 2) e1 (by decide) (by decide) (by omega)
    have len2 : bltD .len [.tup [.str sThen, a.d, b.d]] S1 = .ok (.int 3) S1 := rfl
    have sub : binD .sub (.int 3) (.int 1) S1 = .ok (.int 2) S1 := rfl
    have t01 : t = 0 ∨ t = 1 := by omega
    rcases t01 with rfl | rfl
    · obtain ⟨d, S3, hc, e3, q⟩ := iha ho.1 xa (N - 1) S0 S2 (by omega) e2
      refine ⟨.tup [.str sThen, d, b.d], S3, ?_, e3, ?_⟩
      · simp [bentHead, len2, sub, ht, binD, slc_tup, cut, cutAt, sub1, hc]
      · exact ((sq_tup (sql_cons ((sq_str (s := sThen) rfl)) (sql_cons (q.up (b := 8 + max a.ht b.ht) (by omega)) (sql_cons (qb.up (by omega)) sql_nil)))).up (by omega)).wd (by simp; omega)
    · obtain ⟨d, S3, hc, e3, q⟩ := ihb ho.2 xb (N - 1) S0 S2 (by omega) e2
      refine ⟨.tup [.str sThen, a.d, d], S3, ?_, e3, ?_⟩
      · simp [bentHead, len2, sub, ht, binD, slc_tup, cut, cutAt, sub2, hc]
      · exact ((sq_tup (sql_cons ((sq_str (s := sThen) rfl)) (sql_cons (qa.up (b := 8 + max a.ht b.ht) (by omega)) (sql_cons (q.up (by omega)) sql_nil)))).up (by omega)).wd (by simp; omega)
end SL
set_option Elab.async false
set_option linter.all false
set_option maxRecDepth 100000
set_option maxHeartbeats 2000000
/-! D7: law k01. -/
namespace SL
open PySem
variable {Φ : Nat → Option Def}
theorem forL_inv3 {bd : D → FS → Sto → SO} {I : FS → Sto → Prop} : ∀ {xs : List D} {f : FS} {S : Sto}, (∀ d ∈ xs, ∀ f S, I f S → ∃ f' S', bd d f S = .nx f' S' ∧ I f' S') → I f S → ∃ f' S', forL [] bd xs f S = .nx f' S' ∧ I f' S'
  | [], f, S, _, hi => ⟨f, S, by unfold forL; rw [if_pos (chk_nil S)], hi⟩
  | d :: ds, f, S, h, hi => by
    obtain ⟨f1, S1, e1, i1⟩ := h d List.mem_cons_self f S hi
    obtain ⟨f2, S2, e2, i2⟩ := forL_inv3 (xs := ds) (fun x hx => h x (List.mem_cons_of_mem _ hx)) i1
    refine ⟨f2, S2, ?_, i2⟩
    unfold forL
    rw [if_pos (chk_nil S), e1]
    exact e2
/-- a drawn pattern; the pile stays one -/
theorem drawn_gen (P : PhiD Φ) (h17 : Φ 17 = some f17_L_drawn) {N k most : Nat} {p : Int} {L : List Nat} {S : Sto} (h : S[k]? = some (.lst [.int p])) (hL : Let L) (hm : most ≤ 1000) (hN : 8 ≤ N) : ∃ x S', callN Φ N 17 [.ref k, .str L, .int most] S = .ok x S' ∧ Pt 4 x ∧ ∃ q : Int, S'[k]? = some (.lst [.int q]) := by
  obtain ⟨n, rfl⟩ : ∃ n, N = n + 8 := ⟨N - 8, by omega⟩
  rw [call_of h17 (n + 7) _ S ⟨rfl, by decide⟩]
  have lk : k < S.length := (List.getElem?_eq_some_iff.mp h).1
  have hkj : k ≠ S.length := by omega
  obtain ⟨S1, hS1⟩ : ∃ S1, S1 = S ++ [Ob.lst [.int most, .int (3 * (most : Int) + 2)]] := ⟨_, rfl⟩
  have k1 : S1[k]? = some (.lst [.int p]) := by rw [hS1, List.getElem?_append_left lk]; exact h
  have j1 : S1[S.length]? = some (.lst [.int most, .int (3 * (most : Int) + 2)]) := by rw [hS1]; simp
  have e0 : Eff S1 S1 k S.length := ⟨rfl, fun _ _ _ => rfl, ⟨p, k1⟩, ⟨_, _, j1⟩⟩
  obtain ⟨t, S2, t2, q0, q4, e2⟩ := take_eff P (n := n + 6) (m := 4) hkj e0 (by decide) (by decide)
  obtain ⟨d, hd⟩ : ∃ d : Nat, (d : Int) = 1 + t ∧ d ≤ 4 := ⟨(1 + t).toNat, by omega, by omega⟩
  obtain ⟨x, S3, c3, e3, p3⟩ := pattern_ok P hkj hL d (n + (4 - d)) S1 S2 e2
  have ef : n + (4 - d) + d + 3 = n + 7 := by omega
  rw [ef, hd.1] at c3
  have go : evSs (callN Φ (n + 7)) f17_L_drawn.body [some (.ref k), some (.str L), some (.int most)] S = .ret x S3 := by
    have s3 : small 3 = true := small_of (by omega) (by omega)
    have ad : ∀ T, binD .add (.int (3 * (most : Int))) (.int 2) T = .ok (.int (3 * (most : Int) + 2)) T := fun _ => rfl
    simp [f17_L_drawn, bin_mul (.inl s3), ad, newD, ← hS1, t2, c3]
  refine ⟨x, gc S x S3, ?_, p3.mono hd.2, ?_⟩
  · show endD S (evSs (callN Φ (n + 7)) f17_L_drawn.body [some (.ref k), some (.str L), some (.int most)] S) = _
    rw [go]
    rfl
  · unfold gc
    split
    · exact ⟨p, h⟩
    · exact e3.pile
theorem letters_gen (P : PhiD Φ) {N k : Nat} {p : Int} {S : Sto} (h : S[k]? = some (.lst [.int p])) (hN : 2 ≤ N) : ∃ L S', callN Φ N 14 [.ref k] S = .ok (.str L) S' ∧ Let L ∧ Ef S S' k := by
  obtain ⟨n, rfl⟩ : ∃ n, N = n + 2 := ⟨N - 2, by omega⟩
  obtain ⟨L, c, hL⟩ := letters_ok P (n := n) h
  exact ⟨L, _, c, hL, Ef.set h⟩
structure Phi01 (Φ : Nat → Option Def) : Prop where
  g : Phi26 Φ
  b : Phi24 Φ
  h5 : Φ 5 = some f5_is_word
  h17 : Φ 17 = some f17_L_drawn
  h0 : Φ 0 = some f0_k01
def bodyBent : Ss := .cons (.ifs (.not (.call 26 (.cons (.call 24 (.cons (.var 4) (.cons (.var 5) .nil))) .nil))) (.cons (.ret (.cst (.bl false))) .nil) .nil) .nil
def bodyK1 : Ss := .cons (.asg (.name 4) (.call 12 (.cons (.var 0) (.cons (.var 1) .nil)))) (.cons (.asg (.name 5) (.call 17 (.cons (.var 4) (.cons (.call 14 (.cons (.var 4) .nil)) (.cons (.cst (.int 8)) .nil))))) (.cons (.ifs (.or (.not (.call 26 (.cons (.var 5) .nil))) (.notB true (.call 4 (.cons (.var 5) .nil)))) (.cons (.ret (.cst (.bl false))) .nil) .nil) (.cons (.fors (.name 6) (.range1 (.cst (.int 5))) bodyBent) (.cons (.ifs (.cmp .ne (.comp (.var 3) (.name 3) (.val (.call 23 (.cons (.var 5) .nil))) (.yes (.not (.call 26 (.cons (.var 3) .nil)))) [3]) (.lst .nil)) (.cons (.ret (.cst (.bl false))) .nil) .nil) .nil))))
def bodyThing : Ss := .cons (.asg (.name 7) (.call 5 (.cons (.var 3) .nil))) (.cons (.ifs (.or (.not (.isi (.var 7) [.bool])) (.cmp .ne (.var 7) (.call 21 (.cons (.var 3) .nil)))) (.cons (.ret (.cst (.bl false))) .nil) .nil) .nil)
def bodyWide : Ss := .cons (.asg (.name 8) (.tup (.cons (.cst (.str sOr)) (.cons (.var 8) (.cons (.tup (.cons (.cst (.str sThen)) (.cons (.var 8) (.cons (.var 8) .nil)))) .nil))))) (.cons (.asg (.name 9) (.tup (.cons (.cst (.str sStar)) (.cons (.tup (.cons (.cst (.str sOr)) (.cons (.tup (.cons (.cst (.str sStar)) (.cons (.var 9) .nil))) (.cons (.tup (.cons (.cst (.str sEmpty)) .nil)) .nil)))) .nil)))) .nil)
theorem Pt.sm {x : D} (h : Pt 4 x) : Sm 8 x := by
  obtain ⟨ds, rfl, hl, hx, hs⟩ := h.sq
  exact (hx.up (by decide : 5 ≤ 8)).sm (by decide)
theorem Sq.sm' {a w : Nat} {d : D} (h : Sq a w d) (ha : a ≤ 64) (hw : w ≤ 1000000) : Sm a d := ⟨⟨h.fl, h.lay, Nat.le_trans h.dep ha⟩, h.dep, Nat.le_trans h.wt hw, h.sh, h.si⟩
theorem bent_turn (P : Phi01 Φ) {N k : Nat} {x : D} {a b c e g i j l : Option D} {S0 S : Sto} {t : Int} (hx : Pt 4 x) (h : Ef S0 S k) (hN : 30 ≤ N) : ∃ S', forB (.name 6) (evSs (callN Φ N) bodyBent) (.int t) [a, b, c, e, some (.ref k), some x, g, i, j, l] S = .nx [a, b, c, e, some (.ref k), some x, some (.int t), i, j, l] S' ∧ Ef S0 S' k := by
  obtain ⟨r, rfl, hr⟩ := isP_re 64 x (by have := hx.dep; omega) hx.p
  have ht : r.ht ≤ 5 := by rw [← Re.depth_eq]; exact hx.dep
  obtain ⟨d, S', hc, e', q⟩ := bent_ok P.b r hr hx N S0 S (by omega) h
  have sm := q.sm' (by omega) (by omega)
  have g := good_ok P.g sm (by omega) (N := N) (S := S') (by omega)
  exact ⟨S', by simp [forB, bodyBent, hc, g], e'⟩
theorem k1_turn (P : Phi01 Φ) {N : Nat} (hN : 30 ≤ N) {ns : List Int} {k : Nat} {b c d e g i j l m : Option D} {S : Sto} : ∃ e' g' i' S', forB (.name 1) (evSs (callN Φ N) bodyK1) (.int k) [some (.scr ns), b, c, d, e, g, i, j, l, m] S = .nx [some (.scr ns), some (.int k), c, d, e', g', i', j, l, m] S' := by
  obtain ⟨n2, hn2⟩ : ∃ n, N = n + 2 := ⟨N - 2, by omega⟩
  obtain ⟨p, c1⟩ := pile_ok P.b.d (n := n2) (ns := ns) (k := k) (S := S)
  rw [← hn2] at c1
  have hp : (S ++ [Ob.lst [.int p]])[S.length]? = some (.lst [.int p]) := by simp
  obtain ⟨L, S2, c2, hL, e2⟩ := letters_gen P.b.d (N := N) hp (by omega)
  obtain ⟨p2, hp2⟩ := e2.pile
  obtain ⟨x, S3, c3, hx, p3, hp3⟩ := drawn_gen P.b.d P.h17 (N := N) (most := 8) hp2 hL (by decide) (by omega)
  have c3 : callN Φ N 17 [.ref S.length, .str L, .int 8] S2 = .ok x S3 := c3
  have gx := good_ok P.g hx.sm (by decide) (N := N) (S := S3) (by omega)
  have ix := is_pattern_val P.g hx.sm (N := N) (S := S3) (by omega)
  rw [hx.p] at ix
  obtain ⟨f', S4, e1, h4⟩ := forL_inv3 (bd := forB (.name 6) (evSs (callN Φ N) bodyBent)) (I := fun f T => (∃ o, f = [some (.scr ns), some (.int k), c, d, some (.ref S.length), some x, o, j, l, m]) ∧ Ef S3 T S.length) (S := S3) (xs := upFrom 0 5) (f := [some (.scr ns), some (.int k), c, d, some (.ref S.length), some x, i, j, l, m])
    (fun y hy f T hf => by
      obtain ⟨⟨o, rfl⟩, ef⟩ := hf
      obtain ⟨q, hq, rfl⟩ := List.mem_map.mp hy
      obtain ⟨S', h1, h2⟩ := bent_turn P (N := N) (a := some (.scr ns)) (b := some (.int k)) (c := c) (e := d) (g := o) (i := j) (j := l) (l := m) (t := 0 + (q : Int)) hx ef hN
      exact ⟨_, S', h1, ⟨_, rfl⟩, h2⟩) ⟨⟨i, rfl⟩, Ef.refl hp3⟩
  obtain ⟨⟨o, rfl⟩, ef4⟩ := h4
  obtain ⟨ds, rfl, hl, hq, hs⟩ := hx.sq
  obtain ⟨n1, hn1⟩ : ∃ n, N = n + 1 := ⟨N - 1, by omega⟩
  have b4 := bad_ok P.b.h23 (n := n1) hl S4
  rw [← hn1] at b4
  have cm : ∀ f : FS, f.length = 10 → compD (.name 3) (evO (callN Φ N) (.yes (.not (.call 26 (.cons (.var 3) .nil))))) (evE (callN Φ N) (.var 3)) [3] f ⟨[], odds ds⟩ S4 = .ok (.lst []) S4 := fun f hf => by
    match f, hf with
    | [x0, x1, x2, x3, x4, x5, x6, x7, x8, x9], _ =>
      rw [compD_filter (fun _ => false) id fun y hy => ?_]
      · simp
      · have sm := bad_sm hq hs y hy
        have gy := good_ok P.g sm (by decide) (N := N) (S := S4) (by omega)
        exact step_yes (f' := [x0, x1, x2, some y, x4, x5, x6, x7, x8, x9]) rfl (by simp [gy]) (fun h => by cases h)
  have r1 : rng1D (.int 5) S3 = .ok ⟨[], upFrom 0 5⟩ S3 := range_ok (by decide) (by decide) S3
  have ne : cmpD .ne (.lst []) (.lst []) S4 = .ok (.bl false) S4 := ne_ints [] S4
  have nb : ∀ T, notBD true (.bl true) T = .ok (.bl false) T := fun _ => rfl
  refine ⟨some (.ref S.length), some (.tup ds), o, S4, ?_⟩
  have cm' := cm [some (.scr ns), some (.int k), c, d, some (.ref S.length), some (.tup ds), o, j, l, m] rfl
  simp only [forB, bodyK1, bind_name, setAt_succ, setAt_zero, evSs_cons, evS_asg, ev_call, evs_cons, evs_nil, ev_var, getS_succ, getS_zero, Out.ok_bind, c1, Out.so_ok, asg_name, thenS_nx, c2, ev_cst, c3, evS_ifs, ev_or, ev_not, gx, notD_bl, Bool.not_true, orD_false, ev_notB, ix, nb, ifD_false, evSs_nil, evS_fors, evi_r1, r1, e1, ev_cmp, ev_comp, evi_val, b4, val_lst, cm', ev_lst, List.length_nil, Nat.zero_le, if_true, ne]
/-! ### words -/
theorem thing_turn (P : Phi01 Φ) {N : Nat} (hN : 5 ≤ N) {x : D} {a b c e g i j l m o : Option D} {S : Sto} (hd : Dt x) (hz : ∀ w, x = .str w → w.length ≤ sz) : forB (.name 3) (evSs (callN Φ N) bodyThing) x [a, b, c, o, e, g, i, j, l, m] S = .nx [a, b, c, some x, e, g, i, some (.bl (isW x)), l, m] S := by
  obtain ⟨n, rfl⟩ : ∃ n, N = n + 1 + 1 := ⟨N - 2, by omega⟩
  have v1 := right_word P.g.p2 (n := n) hz S hd.fl
  have v5 : callN Φ (n + 1 + 1) 5 [x] S = .ok (.bl (isW x)) S := call_ret P.h5 ⟨rfl, by decide⟩ (by simp [f5_is_word, start, v1])
  have v21 := law_word P.g.p3 (n := n + 1) hd hz S
  have e1 : ∀ b : Bool, isTy S .bool (.bl b) = some true := fun _ => rfl
  simp [forB, bodyThing, v5, v21, e1, cmp_ne_bl]
def things0 : List D := [.str [], .str [97], .str [104], .str [104, 103, 102, 101, 100, 99, 98, 97], .str [105], .str [65], .str [97, 66], .str [97, 32, 98], .str [32], .non, .int 0, .bl true, .lst [.str [97]], .tup [.str [97]], .str [97, 98, 10], .tup [], .lst []]
def things1 : List D := [.str [48], .str (List.replicate 31 [97]).flatten, .str (List.replicate 200 [97, 98, 104]).flatten, .str ((List.replicate 200 [97, 98, 104]).flatten ++ [105])]
theorem things_dt : ∀ d ∈ things0 ++ things1, Dt d ∧ ∀ w, d = .str w → w.length ≤ sz := by
  have s : ∀ x : List Nat, (x.all (fun c => decide (c < 1114112)) && decide (x.length ≤ 1000)) = true → Dt (.str x) ∧ ∀ w, D.str x = .str w → w.length ≤ sz := fun x h => by
    obtain ⟨h1, h2⟩ := and2 h
    refine ⟨dts h1, fun w e => ?_⟩
    cases e
    have := of_decide_eq_true h2
    show _ ≤ 16777216
    omega
  intro d hd
  simp only [things0, things1, List.mem_append, List.mem_cons, List.not_mem_nil, or_false] at hd
  rcases hd with (rfl | rfl | rfl | rfl | rfl | rfl | rfl | rfl | rfl | rfl | rfl | rfl | rfl | rfl | rfl | rfl | rfl) | (rfl | rfl | rfl | rfl)
  all_goals first
    | exact s _ (by decide +kernel)
    | exact ⟨⟨by decide +kernel, by decide +kernel, by decide +kernel⟩, fun w e => by cases e⟩
/-! ### wide and deep ones -/
def wideS (w : D) : D := .tup [.str sOr, w, .tup [.str sThen, w, w]]
def deepS (w : D) : D := .tup [.str sStar, .tup [.str sOr, .tup [.str sStar, w], .tup [.str sEmpty]]]
theorem wide_loop (c : Nat → List D → Sto → Out D) (S : Sto) {a b c' e g i j : Option D} : ∀ (xs : List D) (o : Option D) (w v : D), ∃ o', forL [] (forB (.name 1) (evSs c bodyWide)) xs [a, o, b, c', e, g, i, j, some w, some v] S = .nx [a, o', b, c', e, g, i, j, some (xs.foldl (fun w _ => wideS w) w), some (xs.foldl (fun w _ => deepS w) v)] S
  | [], o, w, v => ⟨o, by unfold forL; rw [if_pos (chk_nil S)]; rfl⟩
  | x :: xs, o, w, v => by
    have st : forB (.name 1) (evSs c bodyWide) x [a, o, b, c', e, g, i, j, some w, some v] S = .nx [a, some x, b, c', e, g, i, j, some (wideS w), some (deepS v)] S := by
      simp [forB, bodyWide, wideS, deepS]
    obtain ⟨o', h⟩ := wide_loop c S xs (some x) (wideS w) (deepS v)
    refine ⟨o', ?_⟩
    unfold forL
    rw [if_pos (chk_nil S), st]
    exact h
def wide5 : D := wideS (wideS (wideS (wideS (wideS (.tup [.str sSign, .str [97]])))))
def deep5 : D := deepS (deepS (deepS (deepS (deepS (.tup [.str sSign, .str [98]])))))
theorem sm_of {d : D} (h : (flat d && ((toP d).canLay0 && (decide ((toP d).depth ≤ 20) && (decide ((toP d).weight ≤ 1000000) && ((toP d).showable && (toP d).intsShort 13))))) = true) : Sm 20 d := by
  obtain ⟨h1, h⟩ := and2 h
  obtain ⟨h2, h⟩ := and2 h
  obtain ⟨h3, h⟩ := and2 h
  obtain ⟨h4, h⟩ := and2 h
  obtain ⟨h5, h6⟩ := and2 h
  exact ⟨⟨h1, h2, Nat.le_trans (of_decide_eq_true h3) (by decide)⟩, of_decide_eq_true h3, of_decide_eq_true h4, h5, h6⟩
theorem body_k01 : f0_k01.body = .cons (.fors (.name 1) (.range1 (.blt .max (.cons (.cst (.int 2)) (.cons (.blt .min (.cons (.blt .len (.cons (.var 0) .nil)) (.cons (.cst (.int 10)) .nil))) .nil)))) bodyK1) (.cons (.asg (.name 2) (.lst (.cons (.cst (.str [])) (.cons (.cst (.str [97])) (.cons (.cst (.str [104])) (.cons (.cst (.str [104, 103, 102, 101, 100, 99, 98, 97])) (.cons (.cst (.str [105])) (.cons (.cst (.str [65])) (.cons (.cst (.str [97, 66])) (.cons (.cst (.str [97, 32, 98])) (.cons (.cst (.str [32])) (.cons (.cst .non) (.cons (.cst (.int 0)) (.cons (.cst (.bl true)) (.cons (.lst (.cons (.cst (.str [97])) .nil)) (.cons (.tup (.cons (.cst (.str [97])) .nil)) (.cons (.cst (.str [97, 98, 10])) (.cons (.tup .nil) (.cons (.lst .nil) .nil))))))))))))))))))) (.cons (.fors (.name 3) (.val (.bin .add (.var 2) (.lst (.cons (.cst (.str [48])) (.cons (.bin .mul (.cst (.str [97])) (.cst (.int 31))) (.cons (.bin .mul (.cst (.str [97, 98, 104])) (.cst (.int 200))) (.cons (.bin .add (.bin .mul (.cst (.str [97, 98, 104])) (.cst (.int 200))) (.cst (.str [105]))) .nil))))))) bodyThing) (.cons (.par [8, 9] (.cons (.tup (.cons (.cst (.str [115, 105, 103, 110])) (.cons (.cst (.str [97])) .nil))) (.cons (.tup (.cons (.cst (.str [115, 105, 103, 110])) (.cons (.cst (.str [98])) .nil))) .nil))) (.cons (.fors (.name 1) (.range1 (.cst (.int 5))) bodyWide) (.cons (.ifs (.or (.notB true (.call 4 (.cons (.var 8) .nil))) (.or (.notB true (.call 4 (.cons (.tup (.cons (.cst (.str [111, 114])) (.cons (.var 9) (.cons (.var 8) .nil)))) .nil))) (.call 4 (.cons (.tup (.cons (.cst (.str [111, 114])) (.cons (.var 9) (.cons (.lst (.cons (.var 8) .nil)) .nil)))) .nil)))) (.cons (.ret (.cst (.bl false))) .nil) .nil) (.cons (.ret (.and (.isB true (.call 4 (.cons (.tup (.cons (.cst (.str [115, 105, 103, 110])) (.cons (.cst (.str [104])) .nil))) .nil))) (.isB false (.call 4 (.cons (.tup (.cons (.cst (.str [115, 105, 103, 110])) (.cons (.cst (.str [105])) .nil))) .nil))))) .nil)))))) := rfl
@[simp] theorem evS_par (c : Nat → List D → Sto → Out D) (f : FS) (S : Sto) (is : List Nat) (es : Es) : evS c (.par is es) f S = (evEs c es f S).so f fun ds S => parD f is ds S := by conv => lhs; unfold evS
theorem k01_true (P : Phi01 Φ) (ns : List Int) : ∃ S, callN Φ 60 0 [.scr ns] [] = .ok (.bl true) S := by
  obtain ⟨v, hv, v0, v6⟩ : ∃ v : Int, bltD .max [.int 2, .int (if (10 : Int) < (ns.length : Int) then 10 else (ns.length : Int))] ([] : Sto) = .ok (.int v) [] ∧ 0 ≤ v ∧ v ≤ 1000 := by
    refine ⟨_, rfl, ?_, ?_⟩ <;> split <;> split <;> omega
  obtain ⟨f', S1, e1, b, e, g, i, rfl⟩ := forL_inv3 (bd := forB (.name 1) (evSs (callN Φ 59) bodyK1)) (I := fun f _ => ∃ b e g i, f = [some (.scr ns), b, none, none, e, g, i, none, none, none]) (S := []) (xs := upFrom 0 v.toNat) (f := [some (.scr ns), none, none, none, none, none, none, none, none, none])
    (fun y hy f S hf => by
      obtain ⟨b, e, g, i, rfl⟩ := hf
      obtain ⟨j, hj, rfl⟩ := List.mem_map.mp hy
      rw [show (0 : Int) + (j : Int) = (j : Int) from Int.zero_add _]
      obtain ⟨e', g', i', S', h⟩ := k1_turn P (N := 59) (by decide) (ns := ns) (k := j) (b := b) (c := none) (d := none) (e := e) (g := g) (i := i) (j := none) (l := none) (m := none) (S := S)
      exact ⟨_, S', h, _, _, _, _, rfl⟩) ⟨none, none, none, none, rfl⟩
  obtain ⟨f2, e2, o3, o7, rfl⟩ := forL_inv (bd := forB (.name 3) (evSs (callN Φ 59) bodyThing)) (I := fun f => ∃ o3 o7, f = [some (.scr ns), b, some (.lst things0), o3, e, g, i, o7, none, none]) (S := S1) (xs := things0 ++ things1) (f := [some (.scr ns), b, some (.lst things0), none, e, g, i, none, none, none])
    (fun y hy f hf => by
      obtain ⟨o3, o7, rfl⟩ := hf
      obtain ⟨h1, h2⟩ := things_dt y hy
      exact ⟨_, thing_turn P (N := 59) (by decide) h1 h2, _, _, rfl⟩) ⟨none, none, rfl⟩
  obtain ⟨o1, e3⟩ := wide_loop (callN Φ 59) S1 (a := some (.scr ns)) (b := some (.lst things0)) (c' := o3) (e := e) (g := g) (i := i) (j := o7) (upFrom 0 5) b (.tup [.str sSign, .str [97]]) (.tup [.str sSign, .str [98]])
  have e3' : forL [] (forB (.name 1) (evSs (callN Φ 59) bodyWide)) (upFrom 0 5) [some (.scr ns), b, some (.lst things0), o3, e, g, i, o7, some (.tup [.str sSign, .str [97]]), some (.tup [.str sSign, .str [98]])] S1 = .nx [some (.scr ns), o1, some (.lst things0), o3, e, g, i, o7, some wide5, some deep5] S1 := e3
  have r5 : rng1D (.int 5) S1 = .ok ⟨[], upFrom 0 5⟩ S1 := range_ok (by decide) (by decide) S1
  have hlen : bltD .len [.scr ns] ([] : Sto) = .ok (.int ns.length) [] := by simp [bltD, seqOf]
  have hmin : bltD .min [.int (ns.length : Int), .int 10] ([] : Sto) = .ok (.int (if (10 : Int) < (ns.length : Int) then 10 else (ns.length : Int))) [] := rfl
  have w1 := is_pattern_val P.g (d := wide5) (sm_of (by decide +kernel)) (N := 59) (S := S1) (by decide)
  have w2 := is_pattern_val P.g (d := .tup [.str sOr, deep5, wide5]) (sm_of (by decide +kernel)) (N := 59) (S := S1) (by decide)
  have w3 := is_pattern_val P.g (d := .tup [.str sOr, deep5, .lst [wide5]]) (sm_of (by decide +kernel)) (N := 59) (S := S1) (by decide)
  have w4 := is_pattern_val P.g (d := .tup [.str sSign, .str [104]]) (sm_of (by decide +kernel)) (N := 59) (S := S1) (by decide)
  have w5 := is_pattern_val P.g (d := .tup [.str sSign, .str [105]]) (sm_of (by decide +kernel)) (N := 59) (S := S1) (by decide)
  rw [show isP wide5 = true by decide +kernel] at w1
  rw [show isP (.tup [.str sOr, deep5, wide5]) = true by decide +kernel] at w2
  rw [show isP (.tup [.str sOr, deep5, .lst [wide5]]) = false by decide +kernel] at w3
  rw [show isP (.tup [.str sSign, .str [104]]) = true by decide +kernel] at w4
  rw [show isP (.tup [.str sSign, .str [105]]) = false by decide +kernel] at w5
  have w2 : callN Φ 59 4 [.tup [.str [111, 114], deep5, wide5]] S1 = .ok (.bl true) S1 := w2
  have w3 : callN Φ 59 4 [.tup [.str [111, 114], deep5, .lst [wide5]]] S1 = .ok (.bl false) S1 := w3
  have w4 : callN Φ 59 4 [.tup [.str [115, 105, 103, 110], .str [104]]] S1 = .ok (.bl true) S1 := w4
  have w5 : callN Φ 59 4 [.tup [.str [115, 105, 103, 110], .str [105]]] S1 = .ok (.bl false) S1 := w5
  have m1 : binD .mul (.str [97]) (.int 31) S1 = .ok (.str (List.replicate 31 [97]).flatten) S1 := rfl
  have m2 : binD .mul (.str [97, 98, 104]) (.int 200) S1 = .ok (.str (List.replicate 200 [97, 98, 104]).flatten) S1 := rfl
  have m3 : binD .add (.str (List.replicate 200 [97, 98, 104]).flatten) (.str [105]) S1 = .ok (.str ((List.replicate 200 [97, 98, 104]).flatten ++ [105])) S1 := rfl
  have ad : binD .add (.lst things0) (.lst things1) S1 = .ok (.lst (things0 ++ things1)) S1 := rfl
  have nb : ∀ T, notBD true (.bl true) T = .ok (.bl false) T := fun _ => rfl
  have ib : ∀ T, isBD true (.bl true) T = .ok (.bl true) T := fun _ => rfl
  have ib2 : ∀ T, isBD false (.bl false) T = .ok (.bl true) T := fun _ => rfl
  have go : ∃ S', evSs (callN Φ 59) f0_k01.body (start f0_k01 [.scr ns]) [] = .ret (.bl true) S' := by
    refine ⟨S1, ?_⟩
    rw [body_k01]
    have st : start f0_k01 [.scr ns] = [some (.scr ns), none, none, none, none, none, none, none, none, none] := rfl
    rw [st]
    have A1 : evS (callN Φ 59) (.fors (.name 1) (.range1 (.blt .max (.cons (.cst (.int 2)) (.cons (.blt .min (.cons (.blt .len (.cons (.var 0) .nil)) (.cons (.cst (.int 10)) .nil))) .nil)))) bodyK1) [some (.scr ns), none, none, none, none, none, none, none, none, none] [] = .nx [some (.scr ns), b, none, none, e, g, i, none, none, none] S1 := by
      simp only [evS_fors, evi_r1, ev_blt, evs_cons, evs_nil, ev_cst, ev_var, getS_zero, Out.ok_bind, hlen, hmin, hv, range_ok v0 v6, Out.so_ok, e1]
    have A2 : evS (callN Φ 59) (.asg (.name 2) (.lst (.cons (.cst (.str [])) (.cons (.cst (.str [97])) (.cons (.cst (.str [104])) (.cons (.cst (.str [104, 103, 102, 101, 100, 99, 98, 97])) (.cons (.cst (.str [105])) (.cons (.cst (.str [65])) (.cons (.cst (.str [97, 66])) (.cons (.cst (.str [97, 32, 98])) (.cons (.cst (.str [32])) (.cons (.cst .non) (.cons (.cst (.int 0)) (.cons (.cst (.bl true)) (.cons (.lst (.cons (.cst (.str [97])) .nil)) (.cons (.tup (.cons (.cst (.str [97])) .nil)) (.cons (.cst (.str [97, 98, 10])) (.cons (.tup .nil) (.cons (.lst .nil) .nil))))))))))))))))))) [some (.scr ns), b, none, none, e, g, i, none, none, none] S1 = .nx [some (.scr ns), b, some (.lst things0), none, e, g, i, none, none, none] S1 := by
      simp [things0]
    have l1 : evE (callN Φ 59) (.lst (.cons (.cst (.str [48])) (.cons (.bin .mul (.cst (.str [97])) (.cst (.int 31))) (.cons (.bin .mul (.cst (.str [97, 98, 104])) (.cst (.int 200))) (.cons (.bin .add (.bin .mul (.cst (.str [97, 98, 104])) (.cst (.int 200))) (.cst (.str [105]))) .nil))))) [some (.scr ns), b, some (.lst things0), none, e, g, i, none, none, none] S1 = .ok (.lst things1) S1 := by
      simp only [ev_lst, evs_cons, ev_cst, Out.ok_bind, ev_bin, m1, m2, m3, evs_nil]
      rfl
    have A3 : evS (callN Φ 59) (.fors (.name 3) (.val (.bin .add (.var 2) (.lst (.cons (.cst (.str [48])) (.cons (.bin .mul (.cst (.str [97])) (.cst (.int 31))) (.cons (.bin .mul (.cst (.str [97, 98, 104])) (.cst (.int 200))) (.cons (.bin .add (.bin .mul (.cst (.str [97, 98, 104])) (.cst (.int 200))) (.cst (.str [105]))) .nil))))))) bodyThing) [some (.scr ns), b, some (.lst things0), none, e, g, i, none, none, none] S1 = .nx [some (.scr ns), b, some (.lst things0), o3, e, g, i, o7, none, none] S1 := by
      simp only [evS_fors, evi_val, ev_bin, ev_var, getS_succ, getS_zero, Out.ok_bind, l1, ad, val_lst, Out.so_ok, e2]
    have A4 : evS (callN Φ 59) (.par [8, 9] (.cons (.tup (.cons (.cst (.str [115, 105, 103, 110])) (.cons (.cst (.str [97])) .nil))) (.cons (.tup (.cons (.cst (.str [115, 105, 103, 110])) (.cons (.cst (.str [98])) .nil))) .nil))) [some (.scr ns), b, some (.lst things0), o3, e, g, i, o7, none, none] S1 = .nx [some (.scr ns), b, some (.lst things0), o3, e, g, i, o7, some (.tup [.str sSign, .str [97]]), some (.tup [.str sSign, .str [98]])] S1 := by
      simp [parD, setAll]
    have A5 : evS (callN Φ 59) (.fors (.name 1) (.range1 (.cst (.int 5))) bodyWide) [some (.scr ns), b, some (.lst things0), o3, e, g, i, o7, some (.tup [.str sSign, .str [97]]), some (.tup [.str sSign, .str [98]])] S1 = .nx [some (.scr ns), o1, some (.lst things0), o3, e, g, i, o7, some wide5, some deep5] S1 := by
      simp only [evS_fors, evi_r1, ev_cst, Out.ok_bind, r5, Out.so_ok, e3']
    simp only [evSs_cons, A1, thenS_nx, A2, A3, A4, A5]
    have ln2 : ∀ x y : D, (List.length [x, y] ≤ sz) = True := fun _ _ => eq_true (by simp)
    have ln3 : ∀ x y z : D, (List.length [x, y, z] ≤ sz) = True := fun _ _ _ => eq_true (by simp)
    have ln1 : ∀ x : D, (List.length [x] ≤ sz) = True := fun _ => eq_true (by simp)
    simp only [evSs_cons, evS_ifs, ev_or, ev_notB, ev_call, evs_cons, evs_nil, ev_var, getS_succ, getS_zero, Out.ok_bind, w1, nb, orD_false, ev_tup, ev_lst, ev_cst, ln1, ln2, ln3, if_true, w2, w3, Out.so_ok, ifD_false, evSs_nil, thenS_nx, evS_ret, ev_and, ev_isB, w4, ib, andD_true, w5, ib2, thenS_ret]
  obtain ⟨S', go⟩ := go
  exact ⟨_, call_ret' P.h0 ⟨rfl, by decide⟩ go⟩
end SL
set_option Elab.async false
set_option linter.all false
set_option maxRecDepth 100000
set_option maxHeartbeats 2000000
/-! E1: lines: how they are written, when they hold. -/
namespace SL
open PySem
variable {Φ : Nat → Option Def}
section
variable {c : Nat → List D → Sto → Out D} {f : FS} {S : Sto}
@[simp] theorem ev_disp (ks : List DK) (vs : Es) : evE c (.disp ks vs) f S = (evEs c vs f S).bind fun ds S => dispD ks ds S := by conv => lhs; unfold evE
@[simp] theorem ev_dget (o e d : E) : evE c (.dget o e d) f S = (evE c o f S).bind fun x S => dgetX (evE c e) (evE c d) f x S := by conv => lhs; unfold evE
@[simp] theorem ev_callD (g : Nat) (es : Es) : evE c (.callD g es) f S = (evEs c es f S).bind fun ds S => c g (ds ++ [.tup []]) S := by conv => lhs; unfold evE
@[simp] theorem evs_star (e : E) (r : Es) : evEs c (.star e r) f S = (evE c e f S).bind fun d S => starD (evEs c r) f d S := by conv => lhs; unfold evEs
@[simp] theorem iteD_true (ta tb : FS → Sto → Out D) : iteD ta tb f (.bl true) S = ta f S := rfl
@[simp] theorem iteD_false (ta tb : FS → Sto → Out D) : iteD ta tb f (.bl false) S = tb f S := rfl
@[simp] theorem negD_int (i : Int) : negD (.int i) S = .ok (.int (-i)) S := rfl
end
theorem eqv_tup (xs ys : List PyData) : PyData.eqv (.tuple xs) (.tuple ys) = PyData.eqvAll xs ys := by unfold PyData.eqv; rfl
theorem eqv_str (x y : Str) : PyData.eqv (.str x) (.str y) = (x == y) := by unfold PyData.eqv; rfl
theorem eqv_cc (x y : PyData) (xs ys : List PyData) : PyData.eqvAll (x :: xs) (y :: ys) = (PyData.eqv x y && PyData.eqvAll xs ys) := by conv => lhs; unfold PyData.eqvAll
theorem eqv_nn : PyData.eqvAll [] [] = true := by unfold PyData.eqvAll; rfl
theorem eqv_nc (y : PyData) (ys : List PyData) : PyData.eqvAll [] (y :: ys) = false := by unfold PyData.eqvAll; rfl
theorem eqv_cn (y : PyData) (ys : List PyData) : PyData.eqvAll (y :: ys) [] = false := by unfold PyData.eqvAll; rfl
theorem re_eqv (r : Re) : ∀ q : Re, PyData.eqv (toP r.d) (toP q.d) = decide (r = q) := by
  induction r with
  | none => intro q; cases q <;> simp [Re.d, toP, toPs, eqv_tup, eqv_cc, eqv_nn, eqv_nc, eqv_cn, eqv_str, str_beq]
  | empty => intro q; cases q <;> simp [Re.d, toP, toPs, eqv_tup, eqv_cc, eqv_nn, eqv_nc, eqv_cn, eqv_str, str_beq]
  | sign c => intro q; cases q <;> simp [Re.d, toP, toPs, eqv_tup, eqv_cc, eqv_nn, eqv_nc, eqv_cn, eqv_str, str_beq]
  | or a b iha ihb => intro q; cases q <;> simp [Re.d, toP, toPs, eqv_tup, eqv_cc, eqv_nn, eqv_nc, eqv_cn, eqv_str, str_beq, iha, ihb]
  | thn a b iha ihb => intro q; cases q <;> simp [Re.d, toP, toPs, eqv_tup, eqv_cc, eqv_nn, eqv_nc, eqv_cn, eqv_str, str_beq, iha, ihb]
  | star a iha => intro q; cases q <;> simp [Re.d, toP, toPs, eqv_tup, eqv_cc, eqv_nn, eqv_nc, eqv_cn, eqv_str, str_beq, iha]
theorem re_cmp {r q : Re} (h : Dt r.d) (g : Dt q.d) (S : Sto) : cmpD .eq r.d q.d S = .ok (.bl (decide (r = q))) S := by
  rw [cmp_eq (eqD_dt h g S), re_eqv]
theorem re_cmpn {r q : Re} (h : Dt r.d) (g : Dt q.d) (S : Sto) : cmpD .ne r.d q.d S = .ok (.bl (!decide (r = q))) S := by
  rw [cmp_ne (eqD_dt h g S), re_eqv]
/-- a pattern that is not too deep -/
def Re.sm (r : Re) : Prop := r.ok ∧ r.ht ≤ 40
theorem re_lay : ∀ r : Re, r.ok → flat r.d = true ∧ (toP r.d).canLay0 = true
  | .none, _ => by decide +kernel
  | .empty, _ => by decide +kernel
  | .sign c, h => by
    have : ∀ c ∈ sigs, flat (Re.sign c).d = true ∧ (toP (Re.sign c).d).canLay0 = true := by decide +kernel
    exact this c h
  | .or a b, h => by
    obtain ⟨a1, a2⟩ := re_lay a h.1
    obtain ⟨b1, b2⟩ := re_lay b h.2
    exact ⟨by simp [Re.d, flat, flats, a1, b1], by simp [Re.d, toP, toPs, PyData.canLay0, PyData.canLayAll0, a2, b2]; decide +kernel⟩
  | .thn a b, h => by
    obtain ⟨a1, a2⟩ := re_lay a h.1
    obtain ⟨b1, b2⟩ := re_lay b h.2
    exact ⟨by simp [Re.d, flat, flats, a1, b1], by simp [Re.d, toP, toPs, PyData.canLay0, PyData.canLayAll0, a2, b2]; decide +kernel⟩
  | .star a, h => by
    obtain ⟨a1, a2⟩ := re_lay a h
    exact ⟨by simp [Re.d, flat, flats, a1], by simp [Re.d, toP, toPs, PyData.canLay0, PyData.canLayAll0, a2]; decide +kernel⟩
theorem Re.sm.dt {r : Re} (h : r.sm) : Dt r.d := ⟨(re_lay r h.1).1, (re_lay r h.1).2, by rw [Re.depth_eq]; have := h.2; omega⟩
def Re.s30 (r : Re) : Prop := r.ok ∧ r.ht ≤ 30
theorem Re.s30.sm {r : Re} (h : r.s30) : r.sm := ⟨h.1, by have := h.2; omega⟩
theorem Re.s30.dt {r : Re} (h : r.s30) : Dt r.d := h.sm.dt
theorem Re.s30.star {r : Re} (h : r.s30) : Dt (Re.star r).d := Re.sm.dt ⟨h.1, by have := h.2; simp only [Re.ht]; omega⟩
theorem Re.s30.or {r q : Re} (h : r.s30) (g : q.s30) : Dt (Re.or r q).d := Re.sm.dt ⟨⟨h.1, g.1⟩, by have := h.2; have := g.2; simp only [Re.ht]; omega⟩
theorem Re.s30.thn {r q : Re} (h : r.s30) (g : q.s30) : Dt (Re.thn r q).d := Re.sm.dt ⟨⟨h.1, g.1⟩, by have := h.2; have := g.2; simp only [Re.ht]; omega⟩
theorem dep_dt {d : D} (h : Dt d) {n : Nat} (hd : (toP d).depth ≤ n) : (toP d).depth ≤ n := hd
theorem Re.sm.dep {r : Re} (h : r.sm) : (toP r.d).depth ≤ 40 := by rw [Re.depth_eq]; exact h.2
end SL
set_option Elab.async false
set_option linter.all false
set_option maxRecDepth 100000
set_option maxHeartbeats 2000000
/-! F1: texts of patterns, and how the program reads them, in plain Lean. -/
namespace SL
open PySem
namespace Re
def isOr : Re → Bool
  | .or _ _ => true
  | _ => false
def isThn : Re → Bool
  | .thn _ _ => true
  | _ => false
/-- leaves and stars -/
def ls : Re → Nat
  | .none => 1
  | .empty => 1
  | .sign _ => 1
  | .or a b => a.ls + b.ls
  | .thn a b => a.ls + b.ls
  | .star a => a.ls + 1
theorem ls_pos : ∀ r : Re, 1 ≤ r.ls
  | .none => Nat.le_refl _
  | .empty => Nat.le_refl _
  | .sign _ => Nat.le_refl _
  | .or a b => by have := ls_pos a; simp only [ls]; omega
  | .thn a b => by have := ls_pos a; simp only [ls]; omega
  | .star a => by simp only [ls]; omega
theorem ht_ls : ∀ r : Re, r.ht ≤ r.ls
  | .none => Nat.le_refl _
  | .empty => Nat.le_refl _
  | .sign _ => Nat.le_refl _
  | .or a b => by have := ht_ls a; have := ht_ls b; have := ls_pos a; have := ls_pos b; simp only [ls, ht]; omega
  | .thn a b => by have := ht_ls a; have := ht_ls b; have := ls_pos a; have := ls_pos b; simp only [ls, ht]; omega
  | .star a => by have := ht_ls a; simp only [ls, ht]; omega
end Re
def par (x : List Nat) : List Nat := 40 :: (x ++ [41])
/-- the text of a pattern -/
def wr : Re → List Nat
  | .none => [48]
  | .empty => [49]
  | .sign c => [c]
  | .star a => (if a.isOr || a.isThn then par (wr a) else wr a) ++ [42]
  | .thn a b => (if a.isOr then par (wr a) else wr a) ++ (if b.isOr || b.isThn then par (wr b) else wr b)
  | .or a b => wr a ++ 124 :: (if b.isOr then par (wr b) else wr b)
/-- in brackets if it is or, then -/
def brA (r : Re) : List Nat := if r.isOr || r.isThn then par (wr r) else wr r
/-- in brackets if it is or -/
def brO (r : Re) : List Nat := if r.isOr then par (wr r) else wr r
theorem wr_star (a : Re) : wr (.star a) = brA a ++ [42] := rfl
theorem wr_thn (a b : Re) : wr (.thn a b) = brO a ++ brA b := rfl
theorem wr_or (a b : Re) : wr (.or a b) = wr a ++ 124 :: brO b := rfl
theorem par_len (x : List Nat) : (par x).length = x.length + 2 := by simp [par]
theorem wr_len : ∀ r : Re, (wr r).length + 4 ≤ 5 * r.ls
  | .none => by simp [wr, Re.ls]
  | .empty => by simp [wr, Re.ls]
  | .sign _ => by simp [wr, Re.ls]
  | .star a => by
    have := wr_len a
    simp only [wr, Re.ls, List.length_append, List.length_singleton]
    split <;> (try simp only [par_len]) <;> omega
  | .thn a b => by
    have := wr_len a
    have := wr_len b
    simp only [wr, Re.ls, List.length_append]
    split <;> split <;> (try simp only [par_len]) <;> omega
  | .or a b => by
    have := wr_len a
    have := wr_len b
    simp only [wr, Re.ls, List.length_append, List.length_cons]
    split <;> (try simp only [par_len]) <;> omega
/-! ### weights of texts -/
def ws (w : Nat → Nat) (t : List Nat) : Nat := (t.map w).sum
theorem ws_nil (w : Nat → Nat) : ws w [] = 0 := rfl
theorem ws_cons (w : Nat → Nat) (c : Nat) (t : List Nat) : ws w (c :: t) = w c + ws w t := by simp [ws]
theorem ws_app (w : Nat → Nat) (t u : List Nat) : ws w (t ++ u) = ws w t + ws w u := by simp [ws]
/-- leaves and stars -/
def wL (c : Nat) : Nat := if c = 48 ∨ c = 49 ∨ c = 42 ∨ c ∈ sigs then 1 else 0
/-- opening brackets -/
def wB (c : Nat) : Nat := if c = 40 then 1 else 0
/-! ### the reader -/
def leafR (c : Nat) : Option Re := if c = 48 then some .none else if c = 49 then some .empty else if c ∈ sigs then some (.sign c) else none
def starsR : Re → List Nat → Re × List Nat
  | r, [] => (r, [])
  | r, c :: t => if c = 42 then starsR (.star r) t else (r, c :: t)
abbrev Rd := List Nat → Option (Re × List Nat)
def closeR (o : Option (Re × List Nat)) : Option (Re × List Nat) := match o with
  | some (r, 41 :: u) => some (r, u)
  | _ => none
def atomR (E : Rd) (t : List Nat) : Option (Re × List Nat) := match t with
  | [] => none
  | c :: t' => if c = 40 then (closeR (E t')).map fun p => starsR p.1 p.2 else (leafR c).map fun r => starsR r t'
def stopsR (t : List Nat) : Bool := match t with
  | [] => true
  | c :: _ => decide (c = 124) || decide (c = 41)
def rowL (E : Rd) (r : Re) (t : List Nat) : Option (Re × List Nat) :=
  if stopsR t then some (r, t) else match atomR E t with
    | none => none
    | some (a, u) => if h : u.length < t.length then rowL E (.thn r a) u else none
termination_by t.length
def rowR (E : Rd) (t : List Nat) : Option (Re × List Nat) := match atomR E t with
  | none => none
  | some (r, u) => rowL E r u
def eitL (E : Rd) (r : Re) (t : List Nat) : Option (Re × List Nat) := match t with
  | [] => some (r, [])
  | c :: t' => if c = 124 then (match rowR E t' with
    | none => none
    | some (q, u) => if h : u.length < t'.length + 1 then eitL E (.or r q) u else none) else some (r, c :: t')
termination_by t.length
def eitherR (E : Rd) (t : List Nat) : Option (Re × List Nat) := match rowR E t with
  | none => none
  | some (r, u) => eitL E r u
def eitR : Nat → Rd
  | 0, _ => none
  | n + 1, t => eitherR (eitR n) t
/-! ### what is read lies ahead -/
structure Gd (t : List Nat) (r : Re) (u : List Nat) : Prop where
  suf : u <:+ t
  lt : u.length < t.length
  ok : r.ok
  ls : r.ls + ws wL u ≤ ws wL t
def GdR (E : Rd) : Prop := ∀ t r u, E t = some (r, u) → Gd t r u
theorem suf_ws (w : Nat → Nat) {u t : List Nat} (h : u <:+ t) : ws w u ≤ ws w t := by
  obtain ⟨p, rfl⟩ := h
  rw [ws_app]; omega
theorem leaf_gd {c : Nat} {r : Re} (h : leafR c = some r) : r.ok ∧ r.ls = 1 ∧ wL c = 1 ∧ c ≠ 42 ∧ c ≠ 40 ∧ c ≠ 41 ∧ c ≠ 124 ∧ wr r = [c] := by
  unfold leafR at h
  split at h
  · rename_i e; cases h; subst e; exact ⟨trivial, rfl, rfl, by decide, by decide, by decide, by decide, rfl⟩
  · split at h
    · rename_i e; cases h; subst e; exact ⟨trivial, rfl, rfl, by decide, by decide, by decide, by decide, rfl⟩
    · split at h
      · rename_i e; cases h
        refine ⟨e, rfl, by simp [wL, e], ?_, ?_, ?_, ?_, rfl⟩ <;> (rintro rfl; revert e; decide)
      · cases h
theorem stars_gd : ∀ (t : List Nat) (r : Re), r.ok → (starsR r t).1.ok ∧ (starsR r t).2 <:+ t ∧ (starsR r t).1.ls + ws wL (starsR r t).2 = r.ls + ws wL t
  | [], r, h => ⟨h, List.suffix_refl _, rfl⟩
  | c :: t, r, h => by
    unfold starsR
    split
    · rename_i e
      subst e
      obtain ⟨h1, h2, h3⟩ := stars_gd t (.star r) h
      refine ⟨h1, h2.trans (List.suffix_cons _ _), ?_⟩
      rw [h3, ws_cons, show wL 42 = 1 from rfl]
      simp only [Re.ls]
      omega
    · exact ⟨h, List.suffix_refl _, rfl⟩
theorem atom_gd {E : Rd} (hE : GdR E) : GdR (atomR E) := by
  intro t r u h
  unfold atomR at h
  cases t with
  | nil => cases h
  | cons c t' =>
    dsimp only at h
    split at h
    · rename_i hc
      cases q : E t' with
      | none => rw [q] at h; cases h
      | some p =>
        obtain ⟨a, v⟩ := p
        rw [q] at h
        have g := hE _ _ _ q
        cases v with
        | nil => cases h
        | cons d v =>
          by_cases hd : d = 41
          · subst hd
            have h : some (starsR a v) = some (r, u) := h
            obtain ⟨s1, s2, s3⟩ := stars_gd v a g.ok
            rw [Option.some.inj h] at s1 s2 s3
            have s4 : u <:+ t' := s2.trans ((List.suffix_cons _ _).trans g.suf)
            have l := g.ls
            rw [ws_cons] at l
            refine ⟨s4.trans (List.suffix_cons _ _), by have := s4.length_le; simp; omega, s1, ?_⟩
            rw [ws_cons]
            dsimp only at s3
            omega
          · have : closeR (some (a, d :: v)) = none := by
              unfold closeR
              split
              · rename_i e; cases e; exact absurd rfl hd
              · rfl
            rw [this] at h
            cases h
    · cases q : leafR c with
      | none => rw [q] at h; cases h
      | some a =>
        rw [q] at h
        have h : some (starsR a t') = some (r, u) := h
        obtain ⟨l1, l2, l3, _⟩ := leaf_gd q
        obtain ⟨s1, s2, s3⟩ := stars_gd t' a l1
        rw [Option.some.inj h] at s1 s2 s3
        have s2 : u <:+ t' := s2
        refine ⟨s2.trans (List.suffix_cons _ _), by have := s2.length_le; simp; omega, s1, ?_⟩
        rw [ws_cons, l3]
        dsimp only at s3
        omega
theorem rowL_gd {E : Rd} (hE : GdR E) : ∀ (m : Nat) (t : List Nat) (r q : Re) (u : List Nat), t.length ≤ m → r.ok → rowL E r t = some (q, u) → u <:+ t ∧ q.ok ∧ q.ls + ws wL u ≤ r.ls + ws wL t
  | m, t, r, q, u, hm, hr, h => by
    rw [rowL] at h
    split at h
    · cases h; exact ⟨List.suffix_refl _, hr, Nat.le_refl _⟩
    · cases e : atomR E t with
      | none => rw [e] at h; cases h
      | some p =>
        obtain ⟨a, v⟩ := p
        rw [e] at h
        dsimp only at h
        have g := atom_gd hE _ _ _ e
        have lt := g.lt
        rw [dif_pos lt] at h
        obtain ⟨m', rfl⟩ : ∃ m', m = m' + 1 := ⟨m - 1, by omega⟩
        obtain ⟨h1, h2, h3⟩ := rowL_gd hE m' v (.thn r a) q u (by omega) ⟨hr, g.ok⟩ h
        refine ⟨h1.trans g.suf, h2, ?_⟩
        have := g.ls
        simp only [Re.ls] at h3
        omega
theorem row_gd {E : Rd} (hE : GdR E) : GdR (rowR E) := by
  intro t r u h
  unfold rowR at h
  cases e : atomR E t with
  | none => rw [e] at h; cases h
  | some p =>
    obtain ⟨a, v⟩ := p
    rw [e] at h
    have g := atom_gd hE _ _ _ e
    obtain ⟨h1, h2, h3⟩ := rowL_gd hE _ v a r u (Nat.le_refl _) g.ok h
    exact ⟨h1.trans g.suf, Nat.lt_of_le_of_lt h1.length_le g.lt, h2, by have := g.ls; omega⟩
theorem eitL_gd {E : Rd} (hE : GdR E) : ∀ (m : Nat) (t : List Nat) (r q : Re) (u : List Nat), t.length ≤ m → r.ok → eitL E r t = some (q, u) → u <:+ t ∧ q.ok ∧ q.ls + ws wL u ≤ r.ls + ws wL t
  | m, [], r, q, u, hm, hr, h => by
    rw [eitL] at h
    cases h
    exact ⟨List.suffix_refl _, hr, Nat.le_refl _⟩
  | m, c :: t, r, q, u, hm, hr, h => by
    rw [eitL] at h
    split at h
    · cases e : rowR E t with
      | none => rw [e] at h; cases h
      | some p =>
        obtain ⟨a, v⟩ := p
        rw [e] at h
        dsimp only at h
        have g := row_gd hE _ _ _ e
        have lt := g.lt
        rw [dif_pos (show v.length < t.length + 1 by omega)] at h
        have hm' : t.length + 1 ≤ m := hm
        obtain ⟨m', rfl⟩ : ∃ m', m = m' + 1 := ⟨m - 1, by omega⟩
        obtain ⟨h1, h2, h3⟩ := eitL_gd hE m' v (.or r a) q u (by omega) ⟨hr, g.ok⟩ h
        refine ⟨(h1.trans g.suf).trans (List.suffix_cons _ _), h2, ?_⟩
        have := g.ls
        simp only [Re.ls] at h3
        rw [ws_cons]
        omega
    · cases h
      exact ⟨List.suffix_refl _, hr, Nat.le_refl _⟩
theorem either_gd {E : Rd} (hE : GdR E) : GdR (eitherR E) := by
  intro t r u h
  unfold eitherR at h
  cases e : rowR E t with
  | none => rw [e] at h; cases h
  | some p =>
    obtain ⟨a, v⟩ := p
    rw [e] at h
    have g := row_gd hE _ _ _ e
    obtain ⟨h1, h2, h3⟩ := eitL_gd hE _ v a r u (Nat.le_refl _) g.ok h
    exact ⟨h1.trans g.suf, Nat.lt_of_le_of_lt h1.length_le g.lt, h2, by have := g.ls; omega⟩
theorem eit_gd : ∀ n : Nat, GdR (eitR n)
  | 0 => fun t r u h => by cases h
  | n + 1 => either_gd (eit_gd n)
/-! ### what is written is read again -/
def noStar (t : List Nat) : Prop := ∀ u, t ≠ 42 :: u
theorem stars_no {r : Re} {t : List Nat} (h : noStar t) : starsR r t = (r, t) := by
  cases t with
  | nil => rfl
  | cons c t =>
    unfold starsR
    rw [if_neg]
    rintro rfl
    exact h t rfl
theorem wB_par (x : List Nat) : ws wB (par x) = ws wB x + 1 := by
  simp only [par, ws_cons, ws_app, ws_nil, show wB 40 = 1 from rfl, show wB 41 = 0 from rfl]; omega
/-- the first sign of what stands as an atom -/
def begins (t : List Nat) : Prop := ∃ c u, t = c :: u ∧ c ≠ 42 ∧ c ≠ 124 ∧ c ≠ 41
theorem wr_begins : ∀ r : Re, r.ok → begins (wr r)
  | .none, _ => ⟨48, [], rfl, by decide, by decide, by decide⟩
  | .empty, _ => ⟨49, [], rfl, by decide, by decide, by decide⟩
  | .sign c, h => ⟨c, [], rfl, by rintro rfl; revert h; simp [Re.ok], by rintro rfl; revert h; simp [Re.ok], by rintro rfl; revert h; simp [Re.ok]⟩
  | .star a, h => by
    rw [wr_star]
    unfold brA
    split
    · exact ⟨40, _, rfl, by decide, by decide, by decide⟩
    · obtain ⟨c, u, e, h1⟩ := wr_begins a h
      exact ⟨c, u ++ [42], by rw [e]; rfl, h1⟩
  | .thn a b, h => by
    rw [wr_thn]
    unfold brO
    split
    · exact ⟨40, _, rfl, by decide, by decide, by decide⟩
    · obtain ⟨c, u, e, h1⟩ := wr_begins a h.1
      exact ⟨c, u ++ brA b, by rw [e]; rfl, h1⟩
  | .or a b, h => by
    rw [wr_or]
    obtain ⟨c, u, e, h1⟩ := wr_begins a h.1
    exact ⟨c, u ++ 124 :: brO b, by rw [e]; rfl, h1⟩
theorem brA_begins {r : Re} (h : r.ok) : begins (brA r) := by
  unfold brA
  split
  · exact ⟨40, _, rfl, by decide, by decide, by decide⟩
  · exact wr_begins r h
theorem begins_app {t u : List Nat} (h : begins t) : noStar (t ++ u) ∧ stopsR (t ++ u) = false := by
  obtain ⟨c, v, rfl, h1, h2, h3⟩ := h
  refine ⟨fun w e => ?_, by simp [stopsR, h2, h3]⟩
  rw [List.cons_append] at e
  exact h1 (List.cons.inj e).1
theorem wr_ne (r : Re) (h : r.ok) : 0 < (wr r).length := by
  obtain ⟨c, u, e, _⟩ := wr_begins r h
  rw [e]; simp
theorem brA_ne {r : Re} (h : r.ok) : 0 < (brA r).length := by
  obtain ⟨c, u, e, _⟩ := brA_begins h
  rw [e]; simp
theorem rt_sign {E : Rd} {c : Nat} (h : c ∈ sigs) (rest : List Nat) : atomR E (brA (.sign c) ++ rest) = some (starsR (.sign c) rest) := by
  have n0 : c ≠ 40 := by rintro rfl; revert h; decide
  have n1 : c ≠ 48 := by rintro rfl; revert h; decide
  have n2 : c ≠ 49 := by rintro rfl; revert h; decide
  show (if c = 40 then _ else (leafR c).map fun r => starsR r rest) = _
  rw [if_neg n0]
  unfold leafR
  rw [if_neg n1, if_neg n2, if_pos h]
  rfl
theorem rt_row1 {E : Rd} (hG : GdR E) {r : Re} (h : r.ok) {rest : List Nat} (ha : atomR E (brA r ++ rest) = some (starsR r rest)) (hs : noStar rest) : rowR E (brA r ++ rest) = rowL E r rest := by
  unfold rowR
  rw [ha, stars_no hs]
theorem rt_rowS {E : Rd} {a b : Re} (h : b.ok) {rest : List Nat} (ha : atomR E (brA b ++ rest) = some (starsR b rest)) (hs : noStar rest) : rowL E a (brA b ++ rest) = rowL E (.thn a b) rest := by
  rw [rowL, (begins_app (brA_begins h)).2, ha, stars_no hs]
  simp only [Bool.false_eq_true, if_false]
  rw [dif_pos]
  rw [List.length_append]
  have := brA_ne h
  omega
theorem rt_all : ∀ (m : Nat) (r : Re), r.ht ≤ m → r.ok → (∀ n rest, ws wB (brA r) ≤ n → atomR (eitR n) (brA r ++ rest) = some (starsR r rest)) ∧
    (∀ n rest, r.isOr = false → ws wB (wr r) ≤ n → noStar rest → rowR (eitR n) (wr r ++ rest) = rowL (eitR n) r rest) ∧
    (∀ n rest, ws wB (wr r) ≤ n → noStar rest → stopsR rest = true → eitherR (eitR n) (wr r ++ rest) = eitL (eitR n) r rest) := by
  intro m
  induction m with
  | zero => intro r h; have := r.ht_pos; omega
  | succ m ih =>
    intro r hm hr
    have close : ∀ {q : Re} (n : Nat), (∀ n rest, ws wB (wr q) ≤ n → noStar rest → stopsR rest = true → eitherR (eitR n) (wr q ++ rest) = eitL (eitR n) q rest) → ws wB (wr q) + 1 ≤ n → ∀ rest, eitR n (wr q ++ 41 :: rest) = some (q, 41 :: rest) := fun {q} n h hn rest => by
      obtain ⟨k, rfl⟩ : ∃ k, n = k + 1 := ⟨n - 1, by omega⟩
      show eitherR (eitR k) _ = _
      rw [h k (41 :: rest) (by omega) (fun u e => by cases e) rfl, eitL]
      rfl
    -- the three, in turn
    have W : ∀ n rest, ws wB (wr r) ≤ n → noStar rest → stopsR rest = true → (r.isOr = false → rowR (eitR n) (wr r ++ rest) = rowL (eitR n) r rest) → eitherR (eitR n) (wr r ++ rest) = eitL (eitR n) r rest := by
      intro n rest hn hs hp hrow
      cases r with
      | or a b =>
        have hta : a.ht ≤ m := by simp only [Re.ht] at hm; omega
        have htb : b.ht ≤ m := by simp only [Re.ht] at hm; omega
        obtain ⟨A1, A2, A3⟩ := ih a hta hr.1
        obtain ⟨B1, B2, B3⟩ := ih b htb hr.2
        rw [wr_or, ws_app, ws_cons] at hn
        have e : wr (.or a b) ++ rest = wr a ++ 124 :: (brO b ++ rest) := by rw [wr_or]; simp
        rw [e, A3 n _ (by omega) (fun u e => by cases e) rfl, eitL, if_pos rfl]
        have hb : rowR (eitR n) (brO b ++ rest) = rowL (eitR n) b rest := by
          unfold brO at hn ⊢
          split
          · rename_i ho
            rw [if_pos ho] at hn
            have eb : par (wr b) = brA b := by unfold brA; rw [ho]; rfl
            rw [eb] at hn ⊢
            exact rt_row1 (eit_gd n) hr.2 (B1 n rest (by omega)) hs
          · rename_i ho
            rw [if_neg ho] at hn
            exact B2 n rest (by simpa using ho) (by omega) hs
        rw [hb]
        have hl : rowL (eitR n) b rest = some (b, rest) := by rw [rowL, hp]; rfl
        rw [hl]
        dsimp only
        rw [dif_pos (by rw [List.length_append]; omega)]
      | _ =>
        unfold eitherR
        rw [hrow rfl]
        have hl : ∀ q : Re, rowL (eitR n) q rest = some (q, rest) := fun q => by rw [rowL, hp]; rfl
        rw [hl]
    have Rw : ∀ n rest, r.isOr = false → ws wB (wr r) ≤ n → noStar rest → (r.isThn = false → atomR (eitR n) (brA r ++ rest) = some (starsR r rest)) → rowR (eitR n) (wr r ++ rest) = rowL (eitR n) r rest := by
      intro n rest ho hn hs hat
      cases r with
      | or a b => cases ho
      | thn a b =>
        have hta : a.ht ≤ m := by simp only [Re.ht] at hm; omega
        have htb : b.ht ≤ m := by simp only [Re.ht] at hm; omega
        obtain ⟨A1, A2, A3⟩ := ih a hta hr.1
        obtain ⟨B1, B2, B3⟩ := ih b htb hr.2
        rw [wr_thn, ws_app] at hn
        have e : wr (.thn a b) ++ rest = brO a ++ (brA b ++ rest) := by rw [wr_thn]; simp
        rw [e]
        have ns := (begins_app (u := rest) (brA_begins hr.2)).1
        have ha : rowR (eitR n) (brO a ++ (brA b ++ rest)) = rowL (eitR n) a (brA b ++ rest) := by
          unfold brO at hn ⊢
          split
          · rename_i ho
            rw [if_pos ho] at hn
            have eb : par (wr a) = brA a := by unfold brA; rw [ho]; rfl
            rw [eb] at hn ⊢
            exact rt_row1 (eit_gd n) hr.1 (A1 n _ (by omega)) ns
          · rename_i ho
            rw [if_neg ho] at hn
            exact A2 n _ (by simpa using ho) (by omega) ns
        rw [ha]
        exact rt_rowS hr.2 (B1 n rest (by omega)) hs
      | none => exact rt_row1 (eit_gd n) hr (hat rfl) hs
      | empty => exact rt_row1 (eit_gd n) hr (hat rfl) hs
      | sign c => exact rt_row1 (eit_gd n) hr (hat rfl) hs
      | star a => exact rt_row1 (eit_gd n) hr (hat rfl) hs
    have Aq : ∀ n rest, r.isThn = false → r.isOr = false → ws wB (brA r) ≤ n → atomR (eitR n) (brA r ++ rest) = some (starsR r rest) := by
      intro n rest h1 h2 hn
      cases r with
      | or _ _ => cases h2
      | thn _ _ => cases h1
      | none => rfl
      | empty => rfl
      | sign c => exact rt_sign hr rest
      | star a =>
        have hta : a.ht ≤ m := by simp only [Re.ht] at hm; omega
        have e0 : brA (.star a) = brA a ++ [42] := rfl
        rw [e0, ws_app] at hn
        have e : brA (.star a) ++ rest = brA a ++ 42 :: rest := by rw [e0]; simp
        rw [e, (ih a hta hr).1 n (42 :: rest) (by omega)]
        conv => lhs; unfold starsR
        rw [if_pos rfl]
    have wrA : r.isThn = false → r.isOr = false → brA r = wr r := fun h1 h2 => by unfold brA; rw [h1, h2]; rfl
    have R2 : ∀ n rest, r.isOr = false → ws wB (wr r) ≤ n → noStar rest → rowR (eitR n) (wr r ++ rest) = rowL (eitR n) r rest := fun n rest ho hn hs => Rw n rest ho hn hs fun ht => Aq n rest ht ho (by rw [wrA ht ho]; exact hn)
    have W2 : ∀ n rest, ws wB (wr r) ≤ n → noStar rest → stopsR rest = true → eitherR (eitR n) (wr r ++ rest) = eitL (eitR n) r rest := fun n rest hn hs hp => W n rest hn hs hp fun ho => R2 n rest ho hn hs
    refine ⟨fun n rest hn => ?_, R2, W2⟩
    by_cases hb : (r.isOr || r.isThn) = true
    · have eb : brA r = par (wr r) := by unfold brA; rw [if_pos hb]
      rw [eb, wB_par] at hn
      rw [eb]
      have e : par (wr r) ++ rest = 40 :: (wr r ++ 41 :: rest) := by simp [par]
      rw [e]
      unfold atomR
      dsimp only
      rw [if_pos rfl, close n W2 hn rest]
      rfl
    · have hb' : r.isOr = false ∧ r.isThn = false := by simpa using hb
      exact Aq n rest hb'.2 hb'.1 hn
/-- the whole text of a pattern is read as it -/
theorem rt_whole {r : Re} (h : r.ok) {n : Nat} (hn : ws wB (wr r) < n) : eitR n (wr r) = some (r, []) := by
  obtain ⟨k, rfl⟩ : ∃ k, n = k + 1 := ⟨n - 1, by omega⟩
  have := (rt_all r.ht r (Nat.le_refl _) h).2.2 k [] (by omega) (fun u e => by cases e) rfl
  rw [List.append_nil] at this
  show eitherR (eitR k) _ = _
  rw [this, eitL]
end SL
set_option Elab.async false
set_option linter.all false
set_option maxRecDepth 100000
set_option maxHeartbeats 2000000
/-! F2: the program and the law write a pattern. -/
namespace SL
open PySem
variable {Φ : Nat → Option Def}
structure PhiT (Φ : Nat → Option Def) : Prop where
  h340 : Φ 340 = some f340_written
  h341 : Φ 341 = some f341_within_brackets
  h349 : Φ 349 = some f349_L_text
  h350 : Φ 350 = some f350_L_in_brackets
theorem re_dt {r : Re} (h : r.ok) (h2 : r.ht ≤ 64) : Dt r.d := ⟨(re_lay r h).1, (re_lay r h).2, by rw [Re.depth_eq]; exact h2⟩
theorem in_leavesT {r : Re} (h : Dt r.d) (S : Sto) : cmpD .isin r.d (.tup [.tup [.str sNone], .tup [.str sEmpty]]) S = .ok (.bl (decide (Re.none = r) || decide (Re.empty = r))) S := by
  have d1 : Dt (Re.none).d := re_dt trivial (by decide)
  have d2 : Dt (Re.empty).d := re_dt trivial (by decide)
  have e1 := re_eqv .none r
  have e2 := re_eqv .empty r
  have e := inD_tup (ds := [Re.none.d, Re.empty.d]) h (fun d hd => by
    rcases List.mem_cons.mp hd with rfl | hd
    · exact d1
    · rw [List.mem_singleton.mp hd]; exact d2) S
  simp only [toPs, List.any_cons, List.any_nil, e1, e2, Bool.or_false] at e
  exact cmp_in e
theorem in_one {s a : List Nat} (hs : Dt (.str s)) (ha : Dt (.str a)) (S : Sto) : cmpD .isin (.str s) (.tup [.str a]) S = .ok (.bl (decide (a = s))) S := by
  rw [cmp_in (inD_tup hs (fun d hd => by rw [List.mem_singleton.mp hd]; exact ha) S)]
  simp only [toPs, toP, List.any_cons, List.any_nil, PyData.eqv, str_beq, Bool.or_false]
theorem in_oneL {s a : List Nat} (hs : Dt (.str s)) (ha : Dt (.str a)) (S : Sto) : cmpD .isin (.str s) (.lst [.str a]) S = .ok (.bl (decide (a = s))) S := by
  rw [cmp_in (inD_lst hs (fun d hd => by rw [List.mem_singleton.mp hd]; exact ha) S)]
  simp only [toPs, toP, List.any_cons, List.any_nil, PyData.eqv, str_beq, Bool.or_false]
theorem in_twoL {s a b : List Nat} (hs : Dt (.str s)) (ha : Dt (.str a)) (hb : Dt (.str b)) (S : Sto) : cmpD .isin (.str s) (.lst [.str a, .str b]) S = .ok (.bl (decide (a = s) || decide (b = s))) S := by
  rw [cmp_in (inD_lst hs (fun d hd => by
    rcases List.mem_cons.mp hd with rfl | hd
    · exact ha
    · rw [List.mem_singleton.mp hd]; exact hb) S)]
  simp only [toPs, toP, List.any_cons, List.any_nil, PyData.eqv, str_beq, Bool.or_false]
theorem add_str {x y : List Nat} (h : x.length + y.length ≤ 100000) (S : Sto) : binD .add (.str x) (.str y) S = .ok (.str (x ++ y)) S := by
  have : x.length + y.length ≤ sz := Nat.le_trans h (by decide)
  simp [binD, this]
theorem brA_len (r : Re) : (brA r).length ≤ (wr r).length + 2 := by unfold brA; split <;> simp [par_len]
theorem brO_len (r : Re) : (brO r).length ≤ (wr r).length + 2 := by unfold brO; split <;> simp [par_len]
theorem within_val (P : PhiT Φ) {r : Re} {N : Nat} {S : Sto} (hz : (wr r).length ≤ 1000) (hw : callN Φ N 340 [r.d] S = .ok (.str (wr r)) S) :
    callN Φ (N + 1) 341 [r.d, .tup [.str sOr, .str sThen]] S = .ok (.str (brA r)) S ∧ callN Φ (N + 1) 341 [r.d, .tup [.str sOr]] S = .ok (.str (brO r)) S := by
  have dN : Dt (.str sNone) := dts rfl
  have dE : Dt (.str sEmpty) := dts rfl
  have dS : Dt (.str sSign) := dts rfl
  have dT : Dt (.str sStar) := dts rfl
  have dO : Dt (.str sOr) := dts rfl
  have dH : Dt (.str sThen) := dts rfl
  have a1 : ∀ T, binD .add (.str [40]) (.str (wr r)) T = .ok (.str (40 :: wr r)) T := fun T => add_str (by simp; omega) T
  have a2 : ∀ T, binD .add (.str (40 :: wr r)) (.str [41]) T = .ok (.str (par (wr r))) T := fun T => by rw [add_str (by simp; omega) T]; rfl
  constructor
  · refine call_ret P.h341 ⟨rfl, by decide⟩ ?_
    unfold brA
    cases r <;> simp only [Re.d] at hw ⊢ <;> simp [f341_within_brackets, start, sub0, in_two dN dO dH, in_two dE dO dH, in_two dS dO dH, in_two dT dO dH, in_two dO dO dH, in_two dH dO dH, Re.isOr, Re.isThn, hw, a1, a2]
  · refine call_ret P.h341 ⟨rfl, by decide⟩ ?_
    unfold brO
    cases r <;> simp only [Re.d] at hw ⊢ <;> simp [f341_within_brackets, start, sub0, in_one dN dO, in_one dE dO, in_one dS dO, in_one dT dO, in_one dO dO, in_one dH dO, Re.isOr, Re.isThn, hw, a1, a2]
theorem written_val (P : PhiT Φ) : ∀ (r : Re), r.ok → r.ls ≤ 64 → ∀ (N : Nat) (S : Sto), 2 * r.ht ≤ N → callN Φ N 340 [r.d] S = .ok (.str (wr r)) S := by
  intro r
  have z2 : ∀ q : Re, q.ls ≤ 64 → (wr q).length ≤ 1000 := fun q h => by have := wr_len q; omega
  induction r with
  | none =>
    intro h hl N S hN
    obtain ⟨M, rfl, _⟩ := pre_pos (k := 0) (show 0 + 1 ≤ N by have := Re.ht_pos .none; omega)
    refine call_ret P.h340 ⟨rfl, by decide⟩ ?_
    have d1 : Dt (Re.none).d := re_dt trivial (by decide)
    have i1 := in_leavesT d1 S
    have i2 := re_cmp d1 d1 S
    simp only [Re.d] at i1 i2 ⊢
    simp [f340_written, start, i1, i2, wr]
  | empty =>
    intro h hl N S hN
    obtain ⟨M, rfl, _⟩ := pre_pos (k := 0) (show 0 + 1 ≤ N by have := Re.ht_pos .empty; omega)
    refine call_ret P.h340 ⟨rfl, by decide⟩ ?_
    have d0 : Dt (Re.none).d := re_dt trivial (by decide)
    have d1 : Dt (Re.empty).d := re_dt trivial (by decide)
    have i1 := in_leavesT d1 S
    have i2 := re_cmp d1 d0 S
    simp only [Re.d] at i1 i2 ⊢
    simp [f340_written, start, i1, i2, wr]
  | sign c =>
    intro h hl N S hN
    obtain ⟨M, rfl, _⟩ := pre_pos (k := 0) (show 0 + 1 ≤ N by have := Re.ht_pos (.sign c); omega)
    refine call_ret P.h340 ⟨rfl, by decide⟩ ?_
    have d1 : Dt (Re.sign c).d := re_dt h (by simp [Re.ht])
    have i1 := in_leavesT d1 S
    simp only [Re.d] at i1 ⊢
    simp [f340_written, start, i1, sub0, sub1, cmp_eq (eqD_str' _ _ S), wr]
  | star a iha =>
    intro h hl N S hN
    have l1 : (Re.star a).ls = a.ls + 1 := rfl
    have t1 : (Re.star a).ht = a.ht + 1 := rfl
    have hh := Re.ht_ls (.star a)
    obtain ⟨M, rfl⟩ : ∃ M, N = M + 1 + 1 := ⟨N - 2, by omega⟩
    have w1 := (within_val P (z2 a (by omega)) (iha h (by omega) M S (by omega))).1
    refine call_ret P.h340 ⟨rfl, by decide⟩ ?_
    have d1 : Dt (Re.star a).d := re_dt h (by omega)
    have i1 := in_leavesT d1 S
    have ad : ∀ T, binD .add (.str (brA a)) (.str [42]) T = .ok (.str (wr (.star a))) T := fun T => by
      rw [add_str (by have := brA_len a; have := z2 a (by omega); simp; omega) T, wr_star]
    simp only [Re.d] at i1 ⊢
    simp [f340_written, start, i1, sub0, sub1, cmp_eq (eqD_str' _ _ S), w1, ad]
  | thn a b iha ihb =>
    intro h hl N S hN
    have l1 : (Re.thn a b).ls = a.ls + b.ls := rfl
    have t1 : (Re.thn a b).ht = max a.ht b.ht + 1 := rfl
    have hh := Re.ht_ls (.thn a b)
    obtain ⟨M, rfl⟩ : ∃ M, N = M + 1 + 1 := ⟨N - 2, by omega⟩
    have w1 := (within_val P (z2 a (by omega)) (iha h.1 (by omega) M S (by omega))).2
    have w2 := (within_val P (z2 b (by omega)) (ihb h.2 (by omega) M S (by omega))).1
    refine call_ret P.h340 ⟨rfl, by decide⟩ ?_
    have d1 : Dt (Re.thn a b).d := re_dt h (by omega)
    have i1 := in_leavesT d1 S
    have ad : ∀ T, binD .add (.str (brO a)) (.str (brA b)) T = .ok (.str (wr (.thn a b))) T := fun T => by
      rw [add_str (by have := brO_len a; have := z2 a (by omega); have := brA_len b; have := z2 b (by omega); omega) T, wr_thn]
    simp only [Re.d] at i1 ⊢
    simp [f340_written, start, i1, sub0, sub1, sub2, cmp_eq (eqD_str' _ _ S), w1, w2, ad]
  | or a b iha ihb =>
    intro h hl N S hN
    have l1 : (Re.or a b).ls = a.ls + b.ls := rfl
    have t1 : (Re.or a b).ht = max a.ht b.ht + 1 := rfl
    have hh := Re.ht_ls (.or a b)
    obtain ⟨M, rfl⟩ : ∃ M, N = M + 1 + 1 := ⟨N - 2, by omega⟩
    have w1 := iha h.1 (by omega) (M + 1) S (by omega)
    have w2 := (within_val P (z2 b (by omega)) (ihb h.2 (by omega) M S (by omega))).2
    refine call_ret P.h340 ⟨rfl, by decide⟩ ?_
    have d1 : Dt (Re.or a b).d := re_dt h (by omega)
    have i1 := in_leavesT d1 S
    have ad0 : ∀ T, binD .add (.str (wr a)) (.str [124]) T = .ok (.str (wr a ++ [124])) T := fun T => add_str (by have := z2 a (by omega); simp; omega) T
    have ad : ∀ T, binD .add (.str (wr a ++ [124])) (.str (brO b)) T = .ok (.str (wr (.or a b))) T := fun T => by
      rw [add_str (by have := z2 a (by omega); have := brO_len b; have := z2 b (by omega); simp; omega) T, wr_or]; simp
    simp only [Re.d] at i1 ⊢
    simp [f340_written, start, i1, sub0, sub1, sub2, cmp_eq (eqD_str' _ _ S), w1, w2, ad0, ad]
/-! ### the law's -/
theorem L_within_val (P : PhiT Φ) {r : Re} {N : Nat} {S : Sto} (hz : (wr r).length ≤ 1000) (hw : callN Φ N 349 [r.d] S = .ok (.str (wr r)) S) :
    callN Φ (N + 1) 350 [r.d, .lst [.str sOr, .str sThen]] S = .ok (.str (brA r)) S ∧ callN Φ (N + 1) 350 [r.d, .lst [.str sOr]] S = .ok (.str (brO r)) S := by
  have dN : Dt (.str sNone) := dts rfl
  have dE : Dt (.str sEmpty) := dts rfl
  have dS : Dt (.str sSign) := dts rfl
  have dT : Dt (.str sStar) := dts rfl
  have dO : Dt (.str sOr) := dts rfl
  have dH : Dt (.str sThen) := dts rfl
  have a1 : ∀ T, binD .add (.str [40]) (.str (wr r)) T = .ok (.str (40 :: wr r)) T := fun T => add_str (by simp; omega) T
  have a2 : ∀ T, binD .add (.str (40 :: wr r)) (.str [41]) T = .ok (.str (par (wr r))) T := fun T => by rw [add_str (by simp; omega) T]; rfl
  constructor
  · refine call_ret P.h350 ⟨rfl, by decide⟩ ?_
    unfold brA
    cases r <;> simp only [Re.d] at hw ⊢ <;> simp [f350_L_in_brackets, start, sub0, in_twoL dN dO dH, in_twoL dE dO dH, in_twoL dS dO dH, in_twoL dT dO dH, in_twoL dO dO dH, in_twoL dH dO dH, Re.isOr, Re.isThn, hw, a1, a2]
  · refine call_ret P.h350 ⟨rfl, by decide⟩ ?_
    unfold brO
    cases r <;> simp only [Re.d] at hw ⊢ <;> simp [f350_L_in_brackets, start, sub0, in_oneL dN dO, in_oneL dE dO, in_oneL dS dO, in_oneL dT dO, in_oneL dO dO, in_oneL dH dO, Re.isOr, Re.isThn, hw, a1, a2]
theorem L_text_val (P : PhiT Φ) : ∀ (r : Re), r.ok → r.ls ≤ 64 → ∀ (N : Nat) (S : Sto), 2 * r.ht ≤ N → callN Φ N 349 [r.d] S = .ok (.str (wr r)) S := by
  intro r
  have z2 : ∀ q : Re, q.ls ≤ 64 → (wr q).length ≤ 1000 := fun q h => by have := wr_len q; omega
  induction r with
  | none =>
    intro h hl N S hN
    obtain ⟨M, rfl, _⟩ := pre_pos (k := 0) (show 0 + 1 ≤ N by have := Re.ht_pos .none; omega)
    refine call_ret P.h349 ⟨rfl, by decide⟩ ?_
    simp [Re.d, f349_L_text, start, sub0, cmp_eq (eqD_str' _ _ S), wr]
  | empty =>
    intro h hl N S hN
    obtain ⟨M, rfl, _⟩ := pre_pos (k := 0) (show 0 + 1 ≤ N by have := Re.ht_pos .empty; omega)
    refine call_ret P.h349 ⟨rfl, by decide⟩ ?_
    simp [Re.d, f349_L_text, start, sub0, cmp_eq (eqD_str' _ _ S), wr]
  | sign c =>
    intro h hl N S hN
    obtain ⟨M, rfl, _⟩ := pre_pos (k := 0) (show 0 + 1 ≤ N by have := Re.ht_pos (.sign c); omega)
    refine call_ret P.h349 ⟨rfl, by decide⟩ ?_
    simp [Re.d, f349_L_text, start, sub0, sub1, cmp_eq (eqD_str' _ _ S), wr]
  | star a iha =>
    intro h hl N S hN
    have l1 : (Re.star a).ls = a.ls + 1 := rfl
    have t1 : (Re.star a).ht = a.ht + 1 := rfl
    obtain ⟨M, rfl⟩ : ∃ M, N = M + 1 + 1 := ⟨N - 2, by omega⟩
    have w1 := (L_within_val P (z2 a (by omega)) (iha h (by omega) M S (by omega))).1
    refine call_ret P.h349 ⟨rfl, by decide⟩ ?_
    have ad : ∀ T, binD .add (.str (brA a)) (.str [42]) T = .ok (.str (wr (.star a))) T := fun T => by
      rw [add_str (by have := brA_len a; have := z2 a (by omega); simp; omega) T, wr_star]
    simp [Re.d, f349_L_text, start, sub0, sub1, cmp_eq (eqD_str' _ _ S), w1, ad]
  | thn a b iha ihb =>
    intro h hl N S hN
    have l1 : (Re.thn a b).ls = a.ls + b.ls := rfl
    have t1 : (Re.thn a b).ht = max a.ht b.ht + 1 := rfl
    obtain ⟨M, rfl⟩ : ∃ M, N = M + 1 + 1 := ⟨N - 2, by omega⟩
    have w1 := (L_within_val P (z2 a (by omega)) (iha h.1 (by omega) M S (by omega))).2
    have w2 := (L_within_val P (z2 b (by omega)) (ihb h.2 (by omega) M S (by omega))).1
    refine call_ret P.h349 ⟨rfl, by decide⟩ ?_
    have ad : ∀ T, binD .add (.str (brO a)) (.str (brA b)) T = .ok (.str (wr (.thn a b))) T := fun T => by
      rw [add_str (by have := brO_len a; have := z2 a (by omega); have := brA_len b; have := z2 b (by omega); omega) T, wr_thn]
    simp [Re.d, f349_L_text, start, sub0, sub1, sub2, cmp_eq (eqD_str' _ _ S), w1, w2, ad]
  | or a b iha ihb =>
    intro h hl N S hN
    have l1 : (Re.or a b).ls = a.ls + b.ls := rfl
    have t1 : (Re.or a b).ht = max a.ht b.ht + 1 := rfl
    obtain ⟨M, rfl⟩ : ∃ M, N = M + 1 + 1 := ⟨N - 2, by omega⟩
    have w1 := iha h.1 (by omega) (M + 1) S (by omega)
    have w2 := (L_within_val P (z2 b (by omega)) (ihb h.2 (by omega) M S (by omega))).2
    refine call_ret P.h349 ⟨rfl, by decide⟩ ?_
    have ad0 : ∀ T, binD .add (.str (wr a)) (.str [124]) T = .ok (.str (wr a ++ [124])) T := fun T => add_str (by have := z2 a (by omega); simp; omega) T
    have ad : ∀ T, binD .add (.str (wr a ++ [124])) (.str (brO b)) T = .ok (.str (wr (.or a b))) T := fun T => by
      rw [add_str (by have := z2 a (by omega); have := brO_len b; have := z2 b (by omega); simp; omega) T, wr_or]; simp
    simp [Re.d, f349_L_text, start, sub0, sub1, sub2, cmp_eq (eqD_str' _ _ S), w1, w2, ad0, ad]
end SL
set_option Elab.async false
set_option linter.all false
set_option maxRecDepth 100000
set_option maxHeartbeats 2000000
/-! F3: the program's reader walks as the plain one. -/
namespace SL
open PySem
variable {Φ : Nat → Option Def}
structure PhiR (Φ : Nat → Option Def) : Prop where
  h343 : Φ 343 = some f343_inner_read
  h344 : Φ 344 = some f344_atom_read
  h345 : Φ 345 = some f345_row_read
  h346 : Φ 346 = some f346_either_read
/-- the place of a rest of a text -/
def pos (T t : List Nat) : Int := ((T.length - t.length : Nat) : Int)
def rdD (T : List Nat) (o : Option (Re × List Nat)) : D := match o with
  | none => .non
  | some (r, u) => .tup [r.d, .int (pos T u)]
/-- a text that may be read -/
structure Tx (T : List Nat) : Prop where
  le : T.length ≤ 10000
  lt : ∀ c ∈ T, c < 1114112
section
variable {T : List Nat} {S : Sto}
theorem pos_next {c : Nat} {t : List Nat} (h : c :: t <:+ T) : pos T (c :: t) + 1 = pos T t := by
  have := h.length_le
  simp only [List.length_cons] at this
  unfold pos
  rw [List.length_cons]
  omega
theorem drop_pos {t : List Nat} (h : t <:+ T) : T.drop (T.length - t.length) = t := (List.suffix_iff_eq_drop.mp h).symm
theorem slc_pos (hT : Tx T) {t : List Nat} (h : t <:+ T) : slcD (.str T) (some (pos T t)) (some (pos T t + 1)) S = .ok (.str (t.take 1)) S := by
  have e := cut_one (w := T) (i := T.length - t.length) (Nat.sub_le _ _)
  rw [drop_pos h] at e
  have hz : T.length ≤ sz := Nat.le_trans hT.le (by decide)
  unfold slcD pos
  dsimp only
  rw [if_pos hz, e]
theorem take_dt (hT : Tx T) {t : List Nat} (h : t <:+ T) : Dt (.str (t.take 1)) := Dt.str fun c hc => hT.lt c (h.subset (List.mem_of_mem_take hc))
theorem tail_suf {c : Nat} {t : List Nat} (h : c :: t <:+ T) : t <:+ T := (List.suffix_cons c t).trans h
/-- one of three texts -/
theorem in_thr {s a b c : List Nat} (hs : Dt (.str s)) (ha : Dt (.str a)) (hb : Dt (.str b)) (hc : Dt (.str c)) (S : Sto) : cmpD .notin (.str s) (.tup [.str a, .str b, .str c]) S = .ok (.bl (!(decide (a = s) || (decide (b = s) || decide (c = s))))) S := by
  rw [cmp_notin (inD_tup hs (fun d hd => by
    rcases List.mem_cons.mp hd with rfl | hd
    · exact ha
    · rcases List.mem_cons.mp hd with rfl | hd
      · exact hb
      · rw [List.mem_singleton.mp hd]; exact hc) S)]
  simp only [toPs, toP, List.any_cons, List.any_nil, PyData.eqv, str_beq, Bool.or_false]
/-! ### stars -/
def starT : E := .cmp .eq (.slc (.var 0) (.yes (.var 1)) (.yes (.bin .add (.var 1) (.cst (.int 1))))) (.cst (.str [42]))
def starW : Ss := .cons (.par [4, 1] (.cons (.tup (.cons (.cst (.str [115, 116, 97, 114])) (.cons (.var 4) .nil))) (.cons (.bin .add (.var 1) (.cst (.int 1))) .nil))) .nil
theorem star_while (c : Nat → List D → Sto → Out D) (hT : Tx T) {o2 o3 : Option D} : ∀ (t : List Nat) (r : Re), t <:+ T → ∃ n, whileN (evE c starT) (evSs c starW) n [some (.str T), some (.int (pos T t)), o2, o3, some r.d] S = some (.nx [some (.str T), some (.int (pos T (starsR r t).2)), o2, o3, some (starsR r t).1.d] S)
  | [], r, h => ⟨1, while_end (by simp [starT, slc_pos hT h, cmp_eq (eqD_str' _ _ S)])⟩
  | d :: t, r, h => by
    by_cases hd : d = 42
    · subst hd
      obtain ⟨n, ih⟩ := star_while c hT (o2 := o2) (o3 := o3) t (.star r) (tail_suf h)
      refine ⟨n + 1, while_go (S1 := S) (f' := [some (.str T), some (.int (pos T t)), o2, o3, some (Re.star r).d]) (S' := S) (by simp [starT, slc_pos hT h, cmp_eq (eqD_str' _ _ S)]) ?_ ?_⟩
      · have := pos_next h
        simp [starW, parD, setAll, this, Re.d]
      · rw [ih]
        conv => rhs; unfold starsR
        rw [if_pos rfl]
    · refine ⟨1, ?_⟩
      have e : starsR r (d :: t) = (r, d :: t) := by unfold starsR; rw [if_neg hd]
      rw [e]
      exact while_end (by simp [starT, slc_pos hT h, cmp_eq (eqD_str' _ _ S), hd])
/-! ### brackets, atoms -/
theorem isND_re (r : Re) : isND r.d = false := by cases r <;> rfl
theorem isND_some (r : Re) (u : List Nat) : isND (rdD T (some (r, u))) = false := rfl
theorem inner_val (P : PhiR Φ) (hT : Tx T) {E : Rd} (hE : GdR E) {N : Nat} {c : Nat} {t : List Nat} (h : c :: t <:+ T) (hc : callN Φ N 346 [.str T, .int (pos T t)] S = .ok (rdD T (E t)) S) : callN Φ (N + 1) 343 [.str T, .int (pos T (c :: t))] S = .ok (rdD T (closeR (E t))) S := by
  refine call_ret P.h343 ⟨rfl, by decide⟩ ?_
  have pn := pos_next h
  cases e : E t with
  | none =>
    rw [e] at hc
    simp only [rdD] at hc
    simp [f343_inner_read, start, pn, hc, isND, closeR, rdD]
  | some p =>
    obtain ⟨r, u⟩ := p
    rw [e] at hc
    have g := hE _ _ _ e
    have su : u <:+ T := g.suf.trans (tail_suf h)
    simp only [rdD] at hc
    have s0 : ∀ x y : D, ∀ Z, subD (.tup [x, y]) (.int 0) Z = .ok x Z := fun x y Z => sub0 _ _ _
    have s1 : ∀ x y : D, ∀ Z, subD (.tup [x, y]) (.int 1) Z = .ok y Z := fun x y Z => sub1 _ _ _ _
    cases u with
    | nil => simp [f343_inner_read, start, pn, hc, isND, s0, s1, slc_pos hT su, cmp_ne (eqD_str' _ _ S), closeR, rdD]
    | cons d v =>
      by_cases hd : d = 41
      · subst hd
        have pv := pos_next su
        have sl2 : slcD (.str T) (some (pos T (41 :: v))) (some (pos T v)) S = .ok (.str [41]) S := by rw [← pv]; exact slc_pos hT su
        simp [sl2, f343_inner_read, start, pn, hc, isND, s0, s1, slc_pos hT su, cmp_ne (eqD_str' _ _ S), closeR, rdD, pv]
      · have ec : closeR (some (r, d :: v)) = none := by
          unfold closeR
          split
          · rename_i q; cases q; exact absurd rfl hd
          · rfl
        rw [ec]
        simp [f343_inner_read, start, pn, hc, isND, s0, s1, slc_pos hT su, cmp_ne (eqD_str' _ _ S), hd, rdD]
def atomTail : Ss := .cons (.whl starT starW) (.cons (.ret (.tup (.cons (.var 4) (.cons (.var 1) .nil)))) .nil)
theorem atom_tail (c : Nat → List D → Sto → Out D) (hT : Tx T) {o2 o3 : Option D} (t : List Nat) (r : Re) (h : t <:+ T) : evSs c atomTail [some (.str T), some (.int (pos T t)), o2, o3, some r.d] S = .ret (rdD T (some (starsR r t))) S := by
  obtain ⟨n, hn⟩ := star_while c hT (o2 := o2) (o3 := o3) t r h (S := S)
  simp [atomTail, evS_whl, whl_of hn, rdD]
theorem body_atom : f344_atom_read.body = .cons (.asg (.name 2) (.slc (.var 0) (.yes (.var 1)) (.yes (.bin .add (.var 1) (.cst (.int 1)))))) (.cons (.ifs (.cmp .eq (.var 2) (.cst (.str [40]))) (.cons (.asg (.name 3) (.call 343 (.cons (.var 0) (.cons (.var 1) .nil)))) (.cons (.ifs (.isN (.var 3)) (.cons (.ret (.cst .non)) .nil) .nil) (.cons (.asg (.tup [4, 1]) (.var 3)) .nil))) (.cons (.ifs (.and (.cmp .ne (.var 2) (.cst (.str []))) (.cmp .isin (.var 2) (.bin .add (.glo 0) (.cst (.str [48, 49]))))) (.cons (.par [4, 1] (.cons (.dget (.disp [(.str [48]), (.str [49])] (.cons (.glo 1) (.cons (.glo 2) .nil))) (.var 2) (.tup (.cons (.cst (.str [115, 105, 103, 110])) (.cons (.var 2) .nil)))) (.cons (.bin .add (.var 1) (.cst (.int 1))) .nil))) .nil) (.cons (.ret (.cst .non)) .nil)) .nil)) atomTail) := rfl
theorem closeR_some {o : Option (Re × List Nat)} {r : Re} {v : List Nat} (h : closeR o = some (r, v)) : o = some (r, 41 :: v) := by
  unfold closeR at h
  split at h
  · cases h; rfl
  · cases h
theorem atom_val (P : PhiR Φ) (hT : Tx T) {E : Rd} (hE : GdR E) {N : Nat} {t : List Nat} (h : t <:+ T) (hc : ∀ t', t = 40 :: t' → callN Φ N 346 [.str T, .int (pos T t')] S = .ok (rdD T (E t')) S) : callN Φ (N + 2) 344 [.str T, .int (pos T t)] S = .ok (rdD T (atomR E t)) S := by
  refine call_ret P.h344 ⟨rfl, by decide⟩ ?_
  rw [body_atom]
  have st : start f344_atom_read [.str T, .int (pos T t)] = [some (.str T), some (.int (pos T t)), none, none, none] := rfl
  rw [st]
  have ad : ∀ Z, binD .add (.str [97, 98, 99, 100, 101, 102, 103, 104]) (.str [48, 49]) Z = .ok (.str [97, 98, 99, 100, 101, 102, 103, 104, 48, 49]) Z := fun Z => add_str (by decide) Z
  cases t with
  | nil =>
    simp [slc_pos hT h, cmp_eq (eqD_str' _ _ S), cmp_ne (eqD_str' _ _ S), atomR, rdD]
  | cons d t =>
    by_cases hd : d = 40
    · subst hd
      have hi := inner_val P hT hE h (hc t rfl)
      cases e : closeR (E t) with
      | none =>
        rw [e] at hi
        simp only [rdD] at hi
        have ea : atomR E (40 :: t) = none := by unfold atomR; dsimp only; rw [if_pos rfl, e]; rfl
        rw [ea]
        simp [slc_pos hT h, cmp_eq (eqD_str' _ _ S), hi, isND, rdD]
      | some p =>
        obtain ⟨r, v⟩ := p
        rw [e] at hi
        simp only [rdD] at hi
        have ea : atomR E (40 :: t) = some (starsR r v) := by unfold atomR; dsimp only; rw [if_pos rfl, e]; rfl
        rw [ea]
        have sv : v <:+ T := (List.suffix_cons 41 v).trans ((hE _ _ _ (closeR_some e)).suf.trans (tail_suf h))
        have asg : ∀ (f : FS), asgD (.tup [4, 1]) [some (.str T), some (.int (pos T (40 :: t))), some (.str [40]), some (.tup [r.d, .int (pos T v)]), none] (.tup [r.d, .int (pos T v)]) S = .nx [some (.str T), some (.int (pos T v)), some (.str [40]), some (.tup [r.d, .int (pos T v)]), some r.d] S := fun _ => rfl
        have tl := atom_tail (callN Φ (N + 1)) hT (o2 := some (.str [40])) (o3 := some (.tup [r.d, .int (pos T v)])) v r sv (S := S)
        simp only [evSs_cons, evS_asg, ev_slc, ev_var, evb_yes, ev_bin, ev_cst, getS_zero, getS_succ, Out.ok_bind, bnd_int, bin_add, slc_pos hT h, List.take_succ_cons, List.take_zero, Out.so_ok, asg_name, setAt_succ, setAt_zero, thenS_nx, evS_ifs, ev_cmp, cmp_eq (eqD_str' _ _ S), decide_true, ifD_true, ev_call, evs_cons, evs_nil, hi, ev_isN, isND, ifD_false, evSs_nil, asg [], tl]
    · have nd : decide ([d] = [40]) = false := by simp [hd]
      have ea : atomR E (d :: t) = (leafR d).map fun r => starsR r t := by unfold atomR; dsimp only; rw [if_neg hd]
      rw [ea]
      have pn := pos_next h
      have sl2 : slcD (.str T) (some (pos T (d :: t))) (some (pos T t)) S = .ok (.str [d]) S := by rw [← pn]; exact slc_pos hT h
      have mem : ∀ Z, cmpD .isin (.str [d]) (.str [97, 98, 99, 100, 101, 102, 103, 104, 48, 49]) Z = .ok (.bl (decide (d ∈ [97, 98, 99, 100, 101, 102, 103, 104, 48, 49]))) Z := fun Z => cmp_in (inD_sign _ _ _)
      cases e : leafR d with
      | none =>
        have hm : decide (d ∈ [97, 98, 99, 100, 101, 102, 103, 104, 48, 49]) = false := by
          unfold leafR at e
          split at e
          · cases e
          · split at e
            · cases e
            · split at e
              · cases e
              · rename_i h1 h2 h3
                simp only [List.mem_cons, List.not_mem_nil, or_false] at h3 ⊢
                simp only [decide_eq_false_iff_not]
                omega
        simp only [evSs_cons, evS_asg, ev_slc, ev_var, evb_yes, ev_bin, ev_cst, getS_zero, getS_succ, Out.ok_bind, bnd_int, bin_add, slc_pos hT h, List.take_succ_cons, List.take_zero, Out.so_ok, asg_name, setAt_succ, setAt_zero, thenS_nx, evS_ifs, ev_cmp, cmp_eq (eqD_str' _ _ S), nd, ifD_false, ev_and, cmp_ne (eqD_str' _ _ S), show (!decide ([d] = ([] : List Nat))) = true by simp, andD_true, ev_glo0, ad, mem, hm, evS_ret, thenS_ret, Option.map_none, rdD]
      | some r =>
        have hm : decide (d ∈ [97, 98, 99, 100, 101, 102, 103, 104, 48, 49]) = true := by
          unfold leafR at e
          split at e
          · rename_i q; subst q; decide
          · split at e
            · rename_i q; subst q; decide
            · split at e
              · rename_i h3
                simp only [List.mem_cons, List.not_mem_nil, or_false] at h3 ⊢
                simp only [decide_eq_true_eq]
                omega
              · cases e
        have get : ∀ f : FS, f = [some (.str T), some (.int (pos T (d :: t))), some (.str [d]), none, none] → evE (callN Φ (N + 1)) (.dget (.disp [(.str [48]), (.str [49])] (.cons (.glo 1) (.cons (.glo 2) .nil))) (.var 2) (.tup (.cons (.cst (.str [115, 105, 103, 110])) (.cons (.var 2) .nil)))) f S = .ok r.d S := by
          rintro f rfl
          have dd : dispD [(.str [48]), (.str [49])] [.tup [.str sNone], .tup [.str sEmpty]] S = .ok (.dct [(.str [48]), (.str [49])] [.tup [.str sNone], .tup [.str sEmpty]]) S := by
            unfold dispD
            rw [if_pos ⟨rfl, by decide, by decide⟩]
          unfold leafR at e
          split at e
          · rename_i q; subst q; cases e
            simp [dd, dgetX, dictOf, dgetD, dkOf, kGet, Re.d]
          · split at e
            · rename_i q; subst q; cases e
              simp [dd, dgetX, dictOf, dgetD, dkOf, kGet, Re.d]
            · split at e
              · rename_i n1 n2 n3; cases e
                have m1 : ¬ (48 = d) := fun z => n1 z.symm
                have m2 : ¬ (49 = d) := fun z => n2 z.symm
                simp [dd, dgetX, dictOf, dgetD, dkOf, kGet, Re.d, m1, m2]
              · cases e
        have tl := atom_tail (callN Φ (N + 1)) hT (o2 := some (.str [d])) (o3 := none) t r (tail_suf h) (S := S)
        have pr : parD [some (.str T), some (.int (pos T (d :: t))), some (.str [d]), none, none] [4, 1] [r.d, .int (pos T t)] S = .nx [some (.str T), some (.int (pos T t)), some (.str [d]), none, some r.d] S := rfl
        have ne : (!decide ([d] = ([] : List Nat))) = true := by simp
        simp only [evSs_cons, evS_asg, ev_slc, ev_var, evb_yes, ev_bin, ev_cst, getS_zero, getS_succ, Out.ok_bind, bnd_int, bin_add, slc_pos hT h, List.take_succ_cons, List.take_zero, Out.so_ok, asg_name, setAt_succ, setAt_zero, thenS_nx, evS_ifs, ev_cmp, cmp_eq (eqD_str' _ _ S), nd, ifD_false, ev_and, cmp_ne (eqD_str' _ _ S), ne, andD_true, ev_glo0, ad, mem, hm, ifD_true, evS_par, evs_cons, evs_nil, get _ rfl, pn, sl2, pr, evSs_nil, tl]
        rfl
/-! ### rows -/
def rowT : E := .and (.notN (.var 2)) (.cmp .notin (.slc (.var 0) (.yes (.sub (.var 2) (.cst (.int 1)))) (.yes (.bin .add (.sub (.var 2) (.cst (.int 1))) (.cst (.int 1))))) (.tup (.cons (.cst (.str [])) (.cons (.cst (.str [124])) (.cons (.cst (.str [41])) .nil)))))
def rowW : Ss := .cons (.asg (.name 3) (.call 344 (.cons (.var 0) (.cons (.sub (.var 2) (.cst (.int 1))) .nil)))) (.cons (.ifs (.isN (.var 3)) (.cons (.ret (.cst .non)) .nil) .nil) (.cons (.asg (.name 2) (.tup (.cons (.tup (.cons (.cst (.str [116, 104, 101, 110])) (.cons (.sub (.var 2) (.cst (.int 0))) (.cons (.sub (.var 3) (.cst (.int 0))) .nil)))) (.cons (.sub (.var 3) (.cst (.int 1))) .nil)))) .nil))
theorem body_row : f345_row_read.body = .cons (.asg (.name 2) (.call 344 (.cons (.var 0) (.cons (.var 1) .nil)))) (.cons (.whl rowT rowW) (.cons (.ret (.var 2)) .nil)) := rfl
theorem s20 (x y : D) (Z : Sto) : subD (.tup [x, y]) (.int 0) Z = .ok x Z := sub0 _ _ _
theorem s21 (x y : D) (Z : Sto) : subD (.tup [x, y]) (.int 1) Z = .ok y Z := sub1 _ _ _ _
theorem row_test (c : Nat → List D → Sto → Out D) (hT : Tx T) {o1 o3 : Option D} {r : Re} {t : List Nat} (h : t <:+ T) : evE c rowT [some (.str T), o1, some (rdD T (some (r, t))), o3] S = .ok (.bl (!stopsR t)) S := by
  have d0 : Dt (.str []) := dts rfl
  have d1 : Dt (.str [124]) := dts rfl
  have d2 : Dt (.str [41]) := dts rfl
  have e : (decide (([] : List Nat) = t.take 1) || (decide ([124] = t.take 1) || decide ([41] = t.take 1))) = stopsR t := by
    cases t with
    | nil => rfl
    | cons d t =>
      have e1 : (124 = d) = (d = 124) := propext eq_comm
      have e2 : (41 = d) = (d = 41) := propext eq_comm
      simp [stopsR, e1, e2]
  have i3 := in_thr (take_dt hT h) d0 d1 d2 S
  rw [e] at i3
  simp only [rowT, ev_and, ev_notN, ev_var, getS_zero, getS_succ, Out.ok_bind, rdD, isND, Bool.not_false, andD_true, ev_cmp, ev_slc, evb_yes, ev_sub, ev_cst, s21, bnd_int, ev_bin, bin_add, slc_pos hT h, ev_tup, evs_cons, evs_nil, List.length_cons, List.length_nil, le_sz 3 (by decide), Nat.zero_add, Nat.reduceAdd, if_true, i3]
/-- how a loop of the reader ends -/
def loopE (T : List Nat) (S : Sto) (o1 : Option D) (o : Option (Re × List Nat)) (res : SO) : Prop := match o with
  | none => res = .ret .non S
  | some p => ∃ o3, res = .nx [some (.str T), o1, some (rdD T (some p)), o3] S
theorem row_while (c : Nat → List D → Sto → Out D) (hT : Tx T) {E : Rd} (hE : GdR E) {o1 : Option D} : ∀ (m : Nat) (t : List Nat) (r : Re) (o3 : Option D), t.length ≤ m → t <:+ T → (∀ u, u <:+ t → c 344 [.str T, .int (pos T u)] S = .ok (rdD T (atomR E u)) S) → ∃ n res, whileN (evE c rowT) (evSs c rowW) n [some (.str T), o1, some (rdD T (some (r, t))), o3] S = some res ∧ loopE T S o1 (rowL E r t) res
  | m, t, r, o3, hm, h, ha => by
    have test := row_test c hT (o1 := o1) (o3 := o3) (r := r) (S := S) h
    cases hs : stopsR t with
    | true =>
      rw [hs] at test
      refine ⟨1, _, while_end test, ?_⟩
      rw [rowL, hs]
      exact ⟨o3, rfl⟩
    | false =>
      rw [hs] at test
      have at1 := ha t (List.suffix_refl _)
      have hl : rowL E r t = match atomR E t with
        | none => none
        | some (a, u) => if h : u.length < t.length then rowL E (.thn r a) u else none := by
        conv => lhs; rw [rowL]
        rw [hs]; rfl
      cases e : atomR E t with
      | none =>
        rw [e] at at1 hl
        simp only [rdD] at at1
        refine ⟨1, .ret .non S, ?_, by rw [hl]; rfl⟩
        unfold whileN
        rw [test]
        have bd : evSs c rowW [some (.str T), o1, some (rdD T (some (r, t))), o3] S = .ret .non S := by
          simp [rowW, rdD, s21, at1, isND]
        simp only [Bool.not_false]
        rw [bd]
      | some p =>
        obtain ⟨a, u⟩ := p
        rw [e] at at1 hl
        have g := atom_gd hE _ _ _ e
        dsimp only at hl
        rw [dif_pos g.lt] at hl
        have lt := g.lt
        obtain ⟨m', rfl⟩ : ∃ m', m = m' + 1 := ⟨m - 1, by omega⟩
        obtain ⟨n, res, hw, hr⟩ := row_while c hT hE (o1 := o1) m' u (.thn r a) (some (rdD T (some (a, u)))) (by omega) (g.suf.trans h) fun v hv => ha v (hv.trans g.suf)
        refine ⟨n + 1, res, while_go test ?_ hw, by rw [hl]; exact hr⟩
        simp only [rdD] at at1
        simp [rowW, rdD, s20, s21, at1, isND, Re.d]
theorem row_val (P : PhiR Φ) (hT : Tx T) {E : Rd} (hE : GdR E) {N : Nat} {t : List Nat} (h : t <:+ T) (ha : ∀ u, u <:+ t → callN Φ N 344 [.str T, .int (pos T u)] S = .ok (rdD T (atomR E u)) S) : callN Φ (N + 1) 345 [.str T, .int (pos T t)] S = .ok (rdD T (rowR E t)) S := by
  refine call_ret P.h345 ⟨rfl, by decide⟩ ?_
  rw [body_row]
  have st : start f345_row_read [.str T, .int (pos T t)] = [some (.str T), some (.int (pos T t)), none, none] := rfl
  rw [st]
  have a1 := ha t (List.suffix_refl _)
  unfold rowR
  cases e : atomR E t with
  | none =>
    rw [e] at a1
    have test : evE (callN Φ N) rowT [some (.str T), some (.int (pos T t)), some .non, none] S = .ok (.bl false) S := by simp [rowT, isND]
    have w : whl (evE (callN Φ N) rowT) (evSs (callN Φ N) rowW) [some (.str T), some (.int (pos T t)), some .non, none] S = _ := whl_of (while_end (n := 0) test)
    simp only [rdD] at a1 ⊢
    simp only [evSs_cons, evS_asg, ev_call, evs_cons, evs_nil, ev_var, getS_zero, getS_succ, Out.ok_bind, a1, Out.so_ok, asg_name, setAt_succ, setAt_zero, thenS_nx, evS_whl, w, evS_ret, thenS_ret]
  | some p =>
    obtain ⟨r, u⟩ := p
    rw [e] at a1
    have g := atom_gd hE _ _ _ e
    obtain ⟨n, res, hw, hr⟩ := row_while (callN Φ N) hT hE (o1 := some (.int (pos T t))) _ u r none (Nat.le_refl _) (g.suf.trans h) (S := S) fun v hv => ha v (hv.trans g.suf)
    have w := whl_of hw
    cases e2 : rowL E r u with
    | none =>
      rw [e2] at hr
      have hr : res = .ret .non S := hr
      subst hr
      simp only [evSs_cons, evS_asg, ev_call, evs_cons, evs_nil, ev_var, getS_zero, getS_succ, Out.ok_bind, a1, Out.so_ok, asg_name, setAt_succ, setAt_zero, thenS_nx, evS_whl, w, thenS_ret]
      rw [e2]
      rfl
    | some q =>
      rw [e2] at hr
      obtain ⟨o3, rfl⟩ : ∃ o3, res = .nx [some (.str T), some (.int (pos T t)), some (rdD T (some q)), o3] S := hr
      simp only [evSs_cons, evS_asg, ev_call, evs_cons, evs_nil, ev_var, getS_zero, getS_succ, Out.ok_bind, a1, Out.so_ok, asg_name, setAt_succ, setAt_zero, thenS_nx, evS_whl, w, evS_ret, thenS_ret]
      rw [e2]
/-! ### one or the other -/
def eitT : E := .and (.notN (.var 2)) (.cmp .eq (.slc (.var 0) (.yes (.sub (.var 2) (.cst (.int 1)))) (.yes (.bin .add (.sub (.var 2) (.cst (.int 1))) (.cst (.int 1))))) (.cst (.str [124])))
def eitW : Ss := .cons (.asg (.name 3) (.call 345 (.cons (.var 0) (.cons (.bin .add (.sub (.var 2) (.cst (.int 1))) (.cst (.int 1))) .nil)))) (.cons (.ifs (.isN (.var 3)) (.cons (.ret (.cst .non)) .nil) .nil) (.cons (.asg (.name 2) (.tup (.cons (.tup (.cons (.cst (.str [111, 114])) (.cons (.sub (.var 2) (.cst (.int 0))) (.cons (.sub (.var 3) (.cst (.int 0))) .nil)))) (.cons (.sub (.var 3) (.cst (.int 1))) .nil)))) .nil))
theorem body_eit : f346_either_read.body = .cons (.asg (.name 2) (.call 345 (.cons (.var 0) (.cons (.var 1) .nil)))) (.cons (.whl eitT eitW) (.cons (.ret (.var 2)) .nil)) := rfl
theorem eit_test (c : Nat → List D → Sto → Out D) (hT : Tx T) {o1 o3 : Option D} {r : Re} {t : List Nat} (h : t <:+ T) : evE c eitT [some (.str T), o1, some (rdD T (some (r, t))), o3] S = .ok (.bl (decide (t.take 1 = [124]))) S := by
  simp only [eitT, ev_and, ev_notN, ev_var, getS_zero, getS_succ, Out.ok_bind, rdD, isND, Bool.not_false, andD_true, ev_cmp, ev_slc, evb_yes, ev_sub, ev_cst, s21, bnd_int, ev_bin, bin_add, slc_pos hT h, cmp_eq (eqD_str' _ _ S)]
theorem eit_while (c : Nat → List D → Sto → Out D) (hT : Tx T) {E : Rd} (hE : GdR E) {o1 : Option D} : ∀ (m : Nat) (t : List Nat) (r : Re) (o3 : Option D), t.length ≤ m → t <:+ T → (∀ u, u <:+ t → c 345 [.str T, .int (pos T u)] S = .ok (rdD T (rowR E u)) S) → ∃ n res, whileN (evE c eitT) (evSs c eitW) n [some (.str T), o1, some (rdD T (some (r, t))), o3] S = some res ∧ loopE T S o1 (eitL E r t) res
  | m, [], r, o3, hm, h, ha => by
    have test := eit_test c hT (o1 := o1) (o3 := o3) (r := r) (S := S) h
    refine ⟨1, _, while_end test, ?_⟩
    rw [eitL]
    exact ⟨o3, rfl⟩
  | m, d :: t, r, o3, hm, h, ha => by
    have test := eit_test c hT (o1 := o1) (o3 := o3) (r := r) (S := S) h
    by_cases hd : d = 124
    · subst hd
      have test : evE c eitT [some (.str T), o1, some (rdD T (some (r, 124 :: t))), o3] S = .ok (.bl true) S := test
      have at1 := ha t (List.suffix_cons _ _)
      have pn := pos_next h
      have hl : eitL E r (124 :: t) = match rowR E t with
        | none => none
        | some (q, u) => if h : u.length < t.length + 1 then eitL E (.or r q) u else none := by
        conv => lhs; rw [eitL]
        rw [if_pos rfl]
        try rfl
      cases e : rowR E t with
      | none =>
        rw [e] at at1 hl
        simp only [rdD] at at1
        refine ⟨1, .ret .non S, ?_, by rw [hl]; rfl⟩
        unfold whileN
        rw [test]
        have bd : evSs c eitW [some (.str T), o1, some (rdD T (some (r, 124 :: t))), o3] S = .ret .non S := by
          simp [eitW, rdD, s21, pn, at1, isND]
        dsimp only
        rw [bd]
      | some p =>
        obtain ⟨a, u⟩ := p
        rw [e] at at1 hl
        have g := row_gd hE _ _ _ e
        have lt := g.lt
        dsimp only at hl
        rw [dif_pos (show u.length < t.length + 1 by omega)] at hl
        have hm' : t.length + 1 ≤ m := hm
        obtain ⟨m', rfl⟩ : ∃ m', m = m' + 1 := ⟨m - 1, by omega⟩
        obtain ⟨n, res, hw, hr⟩ := eit_while c hT hE (o1 := o1) m' u (.or r a) (some (rdD T (some (a, u)))) (by omega) (g.suf.trans (tail_suf h)) fun v hv => ha v ((hv.trans g.suf).trans (List.suffix_cons _ _))
        refine ⟨n + 1, res, while_go test ?_ hw, by rw [hl]; exact hr⟩
        simp only [rdD] at at1
        simp [eitW, rdD, s20, s21, pn, at1, isND, Re.d]
    · have nd : decide ((d :: t).take 1 = [124]) = false := by simp [hd]
      rw [nd] at test
      refine ⟨1, _, while_end test, ?_⟩
      rw [eitL, if_neg hd]
      exact ⟨o3, rfl⟩
theorem either_val (P : PhiR Φ) (hT : Tx T) {E : Rd} (hE : GdR E) {N : Nat} {t : List Nat} (h : t <:+ T) (ha : ∀ u, u <:+ t → callN Φ N 345 [.str T, .int (pos T u)] S = .ok (rdD T (rowR E u)) S) : callN Φ (N + 1) 346 [.str T, .int (pos T t)] S = .ok (rdD T (eitherR E t)) S := by
  refine call_ret P.h346 ⟨rfl, by decide⟩ ?_
  rw [body_eit]
  have st : start f346_either_read [.str T, .int (pos T t)] = [some (.str T), some (.int (pos T t)), none, none] := rfl
  rw [st]
  have a1 := ha t (List.suffix_refl _)
  unfold eitherR
  cases e : rowR E t with
  | none =>
    rw [e] at a1
    have test : evE (callN Φ N) eitT [some (.str T), some (.int (pos T t)), some .non, none] S = .ok (.bl false) S := by simp [eitT, isND]
    have w : whl (evE (callN Φ N) eitT) (evSs (callN Φ N) eitW) [some (.str T), some (.int (pos T t)), some .non, none] S = _ := whl_of (while_end (n := 0) test)
    simp only [rdD] at a1 ⊢
    simp only [evSs_cons, evS_asg, ev_call, evs_cons, evs_nil, ev_var, getS_zero, getS_succ, Out.ok_bind, a1, Out.so_ok, asg_name, setAt_succ, setAt_zero, thenS_nx, evS_whl, w, evS_ret, thenS_ret]
  | some p =>
    obtain ⟨r, u⟩ := p
    rw [e] at a1
    have g := row_gd hE _ _ _ e
    obtain ⟨n, res, hw, hr⟩ := eit_while (callN Φ N) hT hE (o1 := some (.int (pos T t))) _ u r none (Nat.le_refl _) (g.suf.trans h) (S := S) fun v hv => ha v (hv.trans g.suf)
    have w := whl_of hw
    cases e2 : eitL E r u with
    | none =>
      rw [e2] at hr
      have hr : res = .ret .non S := hr
      subst hr
      simp only [evSs_cons, evS_asg, ev_call, evs_cons, evs_nil, ev_var, getS_zero, getS_succ, Out.ok_bind, a1, Out.so_ok, asg_name, setAt_succ, setAt_zero, thenS_nx, evS_whl, w, thenS_ret]
      rw [e2]
      rfl
    | some q =>
      rw [e2] at hr
      obtain ⟨o3, rfl⟩ : ∃ o3, res = .nx [some (.str T), some (.int (pos T t)), some (rdD T (some q)), o3] S := hr
      simp only [evSs_cons, evS_asg, ev_call, evs_cons, evs_nil, ev_var, getS_zero, getS_succ, Out.ok_bind, a1, Out.so_ok, asg_name, setAt_succ, setAt_zero, thenS_nx, evS_whl, w, evS_ret, thenS_ret]
      rw [e2]
theorem eit_val (P : PhiR Φ) (hT : Tx T) : ∀ (k N : Nat) (t : List Nat), t <:+ T → ws wB t < k → 4 * k ≤ N → callN Φ N 346 [.str T, .int (pos T t)] S = .ok (rdD T (eitR k t)) S
  | 0, N, t, h, hk, hN => by omega
  | k + 1, N, t, h, hk, hN => by
    obtain ⟨M, rfl⟩ : ∃ M, N = M + 2 + 1 + 1 := ⟨N - 4, by omega⟩
    refine either_val P hT (eit_gd k) h fun u hu => row_val P hT (eit_gd k) (hu.trans h) fun v hv => atom_val P hT (eit_gd k) ((hv.trans hu).trans h) fun t' e => ?_
    have s : v <:+ t := hv.trans hu
    have l := suf_ws wB s
    rw [e, ws_cons, show wB 40 = 1 from rfl] at l
    have s2 : t' <:+ T := tail_suf (by rw [← e]; exact s.trans h)
    exact eit_val P hT k M t' s2 (by omega) (by omega)
end
end SL
set_option Elab.async false
set_option linter.all false
set_option maxRecDepth 100000
set_option maxHeartbeats 2000000
/-! F4: what the program reads. -/
namespace SL
open PySem
variable {Φ : Nat → Option Def}
structure PhiP (Φ : Nat → Option Def) : Prop where
  t : PhiT Φ
  r : PhiR Φ
  h347 : Φ 347 = some f347_pattern_read
  h348 : Φ 348 = some f348_read_pattern
/-- the pattern that a text writes -/
def prd (T : List Nat) : Option Re := match eitR (ws wB T + 1) T with
  | some (r, []) => if wr r = T then some r else none
  | _ => none
theorem prd_some {T : List Nat} {r : Re} : prd T = some r ↔ r.ok ∧ wr r = T := by
  constructor
  · intro h
    unfold prd at h
    split at h
    · rename_i q e
      split at h
      · cases h
        exact ⟨(eit_gd _ _ _ _ e).ok, by assumption⟩
      · cases h
    · cases h
  · rintro ⟨h, rfl⟩
    unfold prd
    rw [rt_whole h (Nat.lt_succ_self _)]
    dsimp only
    rw [if_pos rfl]
/-- the text writes r -/
theorem prd_ls {T : List Nat} {r : Re} (h : prd T = some r) : r.ls ≤ ws wL T := by
  unfold prd at h
  split at h
  · rename_i q e
    split at h
    · cases h
      have := (eit_gd _ _ _ _ e).ls
      omega
    · cases h
  · cases h
def optD (o : Option Re) : D := match o with
  | none => .non
  | some r => r.d
theorem pos_self (T : List Nat) : pos T T = 0 := by unfold pos; simp
theorem pattern_read_val (P : PhiP Φ) {T : List Nat} (hT : Tx T) (hl : ws wL T ≤ 64) {N : Nat} {S : Sto} (h1 : 4 * ws wB T + 5 ≤ N) (h2 : 130 ≤ N) : callN Φ N 347 [.str T] S = .ok (optD (prd T)) S := by
  obtain ⟨M, rfl⟩ : ∃ M, N = M + 1 := ⟨N - 1, by omega⟩
  refine call_ret P.h347 ⟨rfl, by decide⟩ ?_
  have e := eit_val P.r hT (ws wB T + 1) M T (List.suffix_refl _) (by omega) (by omega) (S := S)
  rw [pos_self] at e
  have hz : T.length ≤ sz := Nat.le_trans hT.le (by decide)
  unfold prd
  cases q : eitR (ws wB T + 1) T with
  | none =>
    rw [q] at e
    simp only [rdD] at e
    simp [f347_pattern_read, start, e, isND, optD]
  | some p =>
    obtain ⟨r, u⟩ := p
    rw [q] at e
    have g := eit_gd _ _ _ _ q
    have hr : r.ls ≤ 64 := by have := g.ls; omega
    have w := written_val P.t r g.ok hr M S (by have := r.ht_ls; omega)
    simp only [rdD] at e
    cases u with
    | nil =>
      have pe : pos T [] = (T.length : Int) := by unfold pos; simp
      rw [pe] at e
      have i0 : isND r.d = false := isND_re r
      by_cases hw : wr r = T
      · simp [f347_pattern_read, start, e, isND, s20, s21, len_str T hz, w, hw, cmp_ne (eqD_str' _ _ S), optD]
      · simp [f347_pattern_read, start, e, isND, s20, s21, len_str T hz, w, hw, cmp_ne (eqD_str' _ _ S), optD]
    | cons d v =>
      have hs := g.suf.length_le
      simp only [List.length_cons] at hs
      have ne : ¬ (pos T (d :: v) = (T.length : Int)) := by unfold pos; simp only [List.length_cons]; omega
      simp [f347_pattern_read, start, e, isND, s21, len_str T hz, ne, optD]
theorem evS_raise14 (c : Nat → List D → Sto → Out D) (f : FS) (S : Sto) : evS c (.raise 14 (.cons (.cst (.int 1)) .nil)) f S = .exc 14 [(1, .int 1)] f S := by
  unfold evS
  simp [excFs]
theorem read_pattern_val (P : PhiP Φ) {T : List Nat} (hT : Tx T) (hl : ws wL T ≤ 64) {N : Nat} {S : Sto} (h1 : 4 * ws wB T + 6 ≤ N) (h2 : 131 ≤ N) : callN Φ N 348 [.str T] S = match prd T with
    | none => .exc 14 [(1, .int 1)] S
    | some r => .ok r.d S := by
  obtain ⟨M, rfl⟩ : ∃ M, N = M + 1 := ⟨N - 1, by omega⟩
  have e := pattern_read_val P hT hl (N := M) (S := S) (by omega) (by omega)
  cases q : prd T with
  | none =>
    rw [q] at e
    rw [call_of P.h348 M _ S ⟨rfl, by decide⟩]
    show endD S (evSs (callN Φ M) f348_read_pattern.body [some (.str T), none] S) = _
    simp only [optD] at e
    simp [f348_read_pattern, e, isND, evS_raise14]
  | some r =>
    rw [q] at e
    simp only [optD] at e
    refine call_ret P.h348 ⟨rfl, by decide⟩ ?_
    simp [f348_read_pattern, start, e, isND_re]
end SL
set_option Elab.async false
set_option linter.all false
set_option maxRecDepth 100000
set_option maxHeartbeats 2000000
/-! F5: how the law reads a text, in plain Lean. -/
namespace SL
open PySem
def stepDep (d c : Nat) : Option Nat := if c = 40 then some (d + 1) else if c = 41 then (if d = 0 then none else some (d - 1)) else some d
/-- what is ahead begins another part -/
def ahd (t : List Nat) : Bool := match t with
  | [] => false
  | c :: _ => !decide (c = 42)
def cutL (row : Bool) : List (List Nat) → Nat → List Nat → List Nat → Option (List (List Nat))
  | acc, d, cur, [] => if d = 0 then some (acc ++ [cur]) else none
  | acc, d, cur, c :: t => match stepDep d c with
    | none => none
    | some d' => if row = false ∧ c = 124 ∧ d' = 0 then cutL row (acc ++ [cur]) d' [] t
      else if row = true ∧ d' = 0 ∧ ahd t = true then cutL row (acc ++ [cur ++ [c]]) d' [] t
      else cutL row acc d' (cur ++ [c]) t
def joinL (mk : Re → Re → Re) (f : List Nat → Option Re) : Re → List (List Nat) → Option Re
  | r, [] => some r
  | r, p :: ps => match f p with
    | none => none
    | some q => joinL mk f (mk r q) ps
def joinR (mk : Re → Re → Re) (f : List Nat → Option Re) (o : Option (List (List Nat))) : Option Re := match o with
  | none => none
  | some [] => none
  | some (p :: ps) => match f p with
    | none => none
    | some r => joinL mk f r ps
def rowF (A : List Nat → Option Re) (t : List Nat) : Option Re := joinR .thn A (cutL true [] 0 [] t)
def wholeF (A : List Nat → Option Re) (t : List Nat) : Option Re := joinR .or (rowF A) (cutL false [] 0 [] t)
def atomF : Nat → List Nat → Option Re
  | 0, _ => none
  | n + 1, t => if 2 ≤ t.length ∧ t.getLast? = some 42 then (atomF n t.dropLast).map .star
    else if t.head? = some 40 ∧ t.getLast? = some 41 then wholeF (atomF n) (t.tail.dropLast)
    else match t with
      | [c] => leafR c
      | _ => none
/-! ### weights of the parts -/
theorem cut_ws (w : Nat → Nat) (row : Bool) : ∀ (t : List Nat) (acc : List (List Nat)) (d : Nat) (cur : List Nat) (ps : List (List Nat)), cutL row acc d cur t = some ps → (ps.map (ws w)).sum ≤ (acc.map (ws w)).sum + ws w cur + ws w t ∧ ps ≠ []
  | [], acc, d, cur, ps, h => by
    unfold cutL at h
    split at h
    · cases h
      simp [ws_nil]
    · cases h
  | c :: t, acc, d, cur, ps, h => by
    unfold cutL at h
    split at h
    · cases h
    · rename_i d' _
      rw [ws_cons]
      split at h
      · obtain ⟨h1, h2⟩ := cut_ws w row t _ _ _ _ h
        refine ⟨?_, h2⟩
        simp only [List.map_append, List.map_cons, List.map_nil, List.sum_append, List.sum_cons, List.sum_nil, ws_nil] at h1
        omega
      · split at h
        · obtain ⟨h1, h2⟩ := cut_ws w row t _ _ _ _ h
          refine ⟨?_, h2⟩
          simp only [List.map_append, List.map_cons, List.map_nil, List.sum_append, List.sum_cons, List.sum_nil, ws_app, ws_cons, ws_nil] at h1
          omega
        · obtain ⟨h1, h2⟩ := cut_ws w row t _ _ _ _ h
          refine ⟨?_, h2⟩
          simp only [ws_app, ws_cons, ws_nil] at h1
          omega
theorem sum_mem (w : Nat → Nat) : ∀ {ps : List (List Nat)} {p : List Nat}, p ∈ ps → ws w p ≤ (ps.map (ws w)).sum
  | q :: ps, p, h => by
    simp only [List.map_cons, List.sum_cons]
    rcases List.mem_cons.mp h with rfl | h
    · omega
    · have := sum_mem w h; omega
theorem cut_part (w : Nat → Nat) {row : Bool} {t : List Nat} {ps : List (List Nat)} (h : cutL row [] 0 [] t = some ps) {p : List Nat} (hp : p ∈ ps) : ws w p ≤ ws w t := by
  obtain ⟨h1, _⟩ := cut_ws w row t _ _ _ _ h
  have := sum_mem w hp
  simp only [List.map_nil, List.sum_nil, ws_nil] at h1
  omega
def mkOk (mk : Re → Re → Re) : Prop := ∀ a b : Re, ((mk a b).ok ↔ a.ok ∧ b.ok) ∧ (mk a b).ls = a.ls + b.ls
theorem joinL_ls {mk : Re → Re → Re} (hm : mkOk mk) {f : List Nat → Option Re} : ∀ {ps : List (List Nat)}, (∀ p ∈ ps, ∀ q, f p = some q → q.ok ∧ q.ls ≤ ws wL p) → ∀ {r q : Re}, r.ok → joinL mk f r ps = some q → q.ok ∧ q.ls ≤ r.ls + (ps.map (ws wL)).sum
  | [], _, r, q, hr, h => by cases h; exact ⟨hr, by simp⟩
  | p :: ps, hf, r, q, hr, h => by
    unfold joinL at h
    cases e : f p with
    | none => rw [e] at h; cases h
    | some x =>
      rw [e] at h
      obtain ⟨x1, x2⟩ := hf p List.mem_cons_self x e
      obtain ⟨h1, h2⟩ := joinL_ls hm (fun p' hp' => hf p' (List.mem_cons_of_mem _ hp')) (((hm r x).1).mpr ⟨hr, x1⟩) h
      refine ⟨h1, ?_⟩
      rw [(hm r x).2] at h2
      simp only [List.map_cons, List.sum_cons]
      omega
theorem joinR_ls {mk : Re → Re → Re} (hm : mkOk mk) {f : List Nat → Option Re} {ps : List (List Nat)} (hf : ∀ p ∈ ps, ∀ q, f p = some q → q.ok ∧ q.ls ≤ ws wL p) {q : Re} (h : joinR mk f (some ps) = some q) : q.ok ∧ q.ls ≤ (ps.map (ws wL)).sum := by
  cases ps with
  | nil => cases h
  | cons p ps =>
    unfold joinR at h
    dsimp only at h
    cases e : f p with
    | none => rw [e] at h; cases h
    | some x =>
      rw [e] at h
      obtain ⟨x1, x2⟩ := hf p List.mem_cons_self x e
      obtain ⟨h1, h2⟩ := joinL_ls hm (fun p' hp' => hf p' (List.mem_cons_of_mem _ hp')) x1 h
      refine ⟨h1, ?_⟩
      simp only [List.map_cons, List.sum_cons]
      omega
theorem mk_thn : mkOk .thn := fun a b => ⟨Iff.rfl, rfl⟩
theorem mk_or : mkOk .or := fun a b => ⟨Iff.rfl, rfl⟩
theorem rowF_ls {A : List Nat → Option Re} {t : List Nat} (hA : ∀ p, p.length ≤ t.length → ∀ q, A p = some q → q.ok ∧ q.ls ≤ ws wL p) {q : Re} (h : rowF A t = some q) : q.ok ∧ q.ls ≤ ws wL t := by
  unfold rowF at h
  cases e : cutL true [] 0 [] t with
  | none => rw [e] at h; cases h
  | some ps =>
    rw [e] at h
    obtain ⟨h1, h2⟩ := joinR_ls mk_thn (fun p hp q hq => hA p (by
      have := cut_part (fun _ => 1) e hp
      have l : ∀ x : List Nat, ws (fun _ => 1) x = x.length := fun x => by induction x with | nil => rfl | cons a x ih => rw [ws_cons, ih, List.length_cons]; omega
      rw [l, l] at this
      exact this) q hq) h
    have := (cut_ws wL true t _ _ _ _ e).1
    simp only [List.map_nil, List.sum_nil, ws_nil] at this
    exact ⟨h1, by omega⟩
theorem ws_one : ∀ x : List Nat, ws (fun _ => 1) x = x.length
  | [] => rfl
  | a :: x => by rw [ws_cons, ws_one x, List.length_cons]; omega
theorem wholeF_ls {A : List Nat → Option Re} {t : List Nat} (hA : ∀ p, p.length ≤ t.length → ∀ q, A p = some q → q.ok ∧ q.ls ≤ ws wL p) {q : Re} (h : wholeF A t = some q) : q.ok ∧ q.ls ≤ ws wL t := by
  unfold wholeF at h
  cases e : cutL false [] 0 [] t with
  | none => rw [e] at h; cases h
  | some ps =>
    rw [e] at h
    obtain ⟨h1, h2⟩ := joinR_ls mk_or (fun p hp q hq => rowF_ls (t := p) (fun p' hp' => hA p' (by
      have := cut_part (fun _ => 1) e hp
      rw [ws_one, ws_one] at this
      omega)) hq) h
    have := (cut_ws wL false t _ _ _ _ e).1
    simp only [List.map_nil, List.sum_nil, ws_nil] at this
    exact ⟨h1, by omega⟩
theorem last_split {t : List Nat} {c : Nat} (h : t.getLast? = some c) : t = t.dropLast ++ [c] := by
  have ne : t ≠ [] := by rintro rfl; cases h
  rw [List.getLast?_eq_some_getLast ne] at h
  have e := List.dropLast_concat_getLast ne
  rw [Option.some.inj h] at e
  exact e.symm
theorem ends_split {t : List Nat} (h1 : t.head? = some 40) (h2 : t.getLast? = some 41) : t = par t.tail.dropLast := by
  cases t with
  | nil => cases h1
  | cons c t =>
    have hc : c = 40 := Option.some.inj h1
    subst hc
    cases t with
    | nil => exact absurd h2 (by decide)
    | cons d t =>
      have e := last_split (t := d :: t) (c := 41) (by simpa using h2)
      show _ = par (d :: t).dropLast
      unfold par
      rw [← e]
theorem atomF_ls : ∀ (n : Nat) (t : List Nat) (q : Re), atomF n t = some q → q.ok ∧ q.ls ≤ ws wL t
  | 0, t, q, h => by cases h
  | n + 1, t, q, h => by
    unfold atomF at h
    split at h
    · rename_i hc
      cases e : atomF n t.dropLast with
      | none => rw [e] at h; cases h
      | some x =>
        rw [e] at h
        obtain ⟨h1, h2⟩ := atomF_ls n _ _ e
        have h : some (Re.star x) = some q := h
        cases h
        refine ⟨h1, ?_⟩
        rw [last_split hc.2, ws_app, ws_cons, ws_nil, show wL 42 = 1 from rfl]
        simp only [Re.ls]
        omega
    · split at h
      · rename_i hc
        obtain ⟨h1, h2⟩ := wholeF_ls (fun p _ q hq => atomF_ls n p q hq) h
        refine ⟨h1, ?_⟩
        rw [ends_split hc.1 hc.2]
        simp only [par, ws_cons, ws_app, ws_nil]
        omega
      · split at h
        · rename_i c
          obtain ⟨l1, l2, l3, _⟩ := leaf_gd h
          exact ⟨l1, by rw [ws_cons, l3, l2, ws_nil]; omega⟩
        · cases h
/-! ### what is written is read again -/
def inert (x : List Nat) : Prop := ∀ row acc d cur t, cutL row acc (d + 1) cur (x ++ t) = cutL row acc (d + 1) (cur ++ x) t
theorem inert_app {x y : List Nat} (h : inert x) (g : inert y) : inert (x ++ y) := fun row acc d cur t => by
  rw [List.append_assoc, h, g, List.append_assoc]
theorem inert_one {c : Nat} (h1 : c ≠ 40) (h2 : c ≠ 41) : inert [c] := fun row acc d cur t => by
  show cutL row acc (d + 1) cur (c :: t) = _
  conv => lhs; unfold cutL
  have e : stepDep (d + 1) c = some (d + 1) := by unfold stepDep; rw [if_neg h1, if_neg h2]
  rw [e]
  dsimp only
  rw [if_neg (by rintro ⟨_, _, z⟩; omega), if_neg (by rintro ⟨_, z, _⟩; omega)]
theorem inert_par {x : List Nat} (h : inert x) : inert (par x) := fun row acc d cur t => by
  have e0 : par x ++ t = 40 :: (x ++ 41 :: t) := by simp [par]
  rw [e0]
  conv => lhs; unfold cutL
  have e : stepDep (d + 1) 40 = some (d + 2) := rfl
  rw [e]
  dsimp only
  rw [if_neg (by rintro ⟨_, _, z⟩; omega), if_neg (by rintro ⟨_, z, _⟩; omega), h row acc (d + 1) _ _]
  conv => lhs; unfold cutL
  have e2 : stepDep (d + 1 + 1) 41 = some (d + 1) := rfl
  rw [e2]
  dsimp only
  rw [if_neg (by rintro ⟨_, _, z⟩; omega), if_neg (by rintro ⟨_, z, _⟩; omega)]
  congr 1
  simp [par]
theorem sig_ne {c : Nat} (h : c ∈ sigs) : c ≠ 40 ∧ c ≠ 41 ∧ c ≠ 124 ∧ c ≠ 42 ∧ c ≠ 48 ∧ c ≠ 49 := by
  refine ⟨?_, ?_, ?_, ?_, ?_, ?_⟩ <;> (rintro rfl; revert h; decide)
theorem wr_inert : ∀ r : Re, r.ok → inert (wr r)
  | .none, _ => inert_one (by decide) (by decide)
  | .empty, _ => inert_one (by decide) (by decide)
  | .sign c, h => inert_one (sig_ne h).1 (sig_ne h).2.1
  | .star a, h => by
    have ia := wr_inert a h
    simp only [wr]
    refine inert_app ?_ (inert_one (by decide) (by decide))
    split
    · exact inert_par ia
    · exact ia
  | .thn a b, h => by
    have ia := wr_inert a h.1
    have ib := wr_inert b h.2
    simp only [wr]
    refine inert_app ?_ ?_
    · split
      · exact inert_par ia
      · exact ia
    · split
      · exact inert_par ib
      · exact ib
  | .or a b, h => by
    have ia := wr_inert a h.1
    have ib := wr_inert b h.2
    have e : wr (.or a b) = wr a ++ ([124] ++ brO b) := rfl
    rw [e]
    refine inert_app ia (inert_app (inert_one (by decide) (by decide)) ?_)
    unfold brO
    split
    · exact inert_par ib
    · exact ib
def barless (x : List Nat) : Prop := ∀ acc cur t, cutL false acc 0 cur (x ++ t) = cutL false acc 0 (cur ++ x) t
theorem barless_app {x y : List Nat} (h : barless x) (g : barless y) : barless (x ++ y) := fun acc cur t => by
  rw [List.append_assoc, h, g, List.append_assoc]
theorem barless_one {c : Nat} (h1 : c ≠ 40) (h2 : c ≠ 41) (h3 : c ≠ 124) : barless [c] := fun acc cur t => by
  show cutL false acc 0 cur (c :: t) = _
  conv => lhs; unfold cutL
  have e : stepDep 0 c = some 0 := by unfold stepDep; rw [if_neg h1, if_neg h2]
  rw [e]
  dsimp only
  rw [if_neg (by rintro ⟨_, z, _⟩; exact h3 z), if_neg (by rintro ⟨z, _⟩; cases z)]
theorem barless_par {x : List Nat} (h : inert x) : barless (par x) := fun acc cur t => by
  have e0 : par x ++ t = 40 :: (x ++ 41 :: t) := by simp [par]
  rw [e0]
  conv => lhs; unfold cutL
  have e : stepDep 0 40 = some 1 := rfl
  rw [e]
  dsimp only
  rw [if_neg (by rintro ⟨_, _, z⟩; omega), if_neg (by rintro ⟨_, z, _⟩; omega), h false acc 0 _ _]
  conv => lhs; unfold cutL
  have e2 : stepDep (0 + 1) 41 = some 0 := rfl
  rw [e2]
  dsimp only
  rw [if_neg (by rintro ⟨_, z, _⟩; omega), if_neg (by rintro ⟨z, _⟩; cases z)]
  congr 1
  simp [par]
theorem wr_barless : ∀ r : Re, r.ok → r.isOr = false → barless (wr r)
  | .none, _, _ => barless_one (by decide) (by decide) (by decide)
  | .empty, _, _ => barless_one (by decide) (by decide) (by decide)
  | .sign c, h, _ => barless_one (sig_ne h).1 (sig_ne h).2.1 (sig_ne h).2.2.1
  | .star a, h, _ => by
    simp only [wr]
    refine barless_app ?_ (barless_one (by decide) (by decide) (by decide))
    split
    · exact barless_par (wr_inert a h)
    · rename_i ho
      exact wr_barless a h (by simp at ho; exact ho.1)
  | .thn a b, h, _ => by
    simp only [wr]
    refine barless_app ?_ ?_
    · split
      · exact barless_par (wr_inert a h.1)
      · rename_i ho
        exact wr_barless a h.1 (by simpa using ho)
    · split
      · exact barless_par (wr_inert b h.2)
      · rename_i ho
        exact wr_barless b h.2 (by simp at ho; exact ho.1)
  | .or a b, h, ho => by cases ho
theorem brO_barless {r : Re} (h : r.ok) : barless (brO r) := by
  unfold brO
  split
  · exact barless_par (wr_inert r h)
  · rename_i ho
    exact wr_barless r h (by simpa using ho)
/-- the rows of a pattern -/
def pcs : Re → List (List Nat)
  | .or a b => pcs a ++ [brO b]
  | r => [wr r]
theorem cut_bar : ∀ r : Re, r.ok → (∀ acc t, cutL false acc 0 [] (wr r ++ 124 :: t) = cutL false (acc ++ pcs r) 0 [] t) ∧ ∀ acc, cutL false acc 0 [] (wr r) = some (acc ++ pcs r) := by
  have bar : ∀ acc cur t, cutL false acc 0 cur (124 :: t) = cutL false (acc ++ [cur]) 0 [] t := fun acc cur t => by
    conv => lhs; unfold cutL
    have e : stepDep 0 124 = some 0 := rfl
    rw [e]
    dsimp only
    rw [if_pos ⟨rfl, rfl, rfl⟩]
  have base : ∀ r : Re, r.ok → r.isOr = false → pcs r = [wr r] → (∀ acc t, cutL false acc 0 [] (wr r ++ 124 :: t) = cutL false (acc ++ pcs r) 0 [] t) ∧ ∀ acc, cutL false acc 0 [] (wr r) = some (acc ++ pcs r) := fun r h ho hp => by
    have hb := wr_barless r h ho
    refine ⟨fun acc t => ?_, fun acc => ?_⟩
    · rw [hb, bar, hp]
      rfl
    · have := hb acc [] []
      rw [List.append_nil] at this
      rw [this, hp]
      rfl
  intro r
  induction r with
  | none => exact fun h => base _ h rfl rfl
  | empty => exact fun h => base _ h rfl rfl
  | sign c => exact fun h => base _ h rfl rfl
  | star a _ => exact fun h => base _ h rfl rfl
  | thn a b _ _ => exact fun h => base _ h rfl rfl
  | or a b iha ihb =>
    intro h
    obtain ⟨a1, a2⟩ := iha h.1
    have hb := brO_barless h.2
    refine ⟨fun acc t => ?_, fun acc => ?_⟩
    · have e : wr (.or a b) ++ 124 :: t = wr a ++ 124 :: (brO b ++ 124 :: t) := by rw [wr_or]; simp
      rw [e, a1, hb, bar]
      simp [pcs]
    · rw [wr_or, a1]
      have := hb (acc ++ pcs a) [] []
      rw [List.append_nil] at this
      rw [this]
      simp [cutL, pcs]
theorem cut_atom : ∀ (b : Re), b.ok → ∀ acc cur t, cutL true acc 0 cur (brA b ++ t) = if ahd t = true then cutL true (acc ++ [cur ++ brA b]) 0 [] t else cutL true acc 0 (cur ++ brA b) t := by
  have one : ∀ (c : Nat), c ≠ 40 → c ≠ 41 → ∀ acc cur t, cutL true acc 0 cur (c :: t) = if ahd t = true then cutL true (acc ++ [cur ++ [c]]) 0 [] t else cutL true acc 0 (cur ++ [c]) t := fun c h1 h2 acc cur t => by
    conv => lhs; unfold cutL
    have e : stepDep 0 c = some 0 := by unfold stepDep; rw [if_neg h1, if_neg h2]
    rw [e]
    dsimp only
    rw [if_neg (by rintro ⟨z, _⟩; cases z)]
    by_cases ha : ahd t = true
    · rw [if_pos ⟨rfl, rfl, ha⟩, if_pos ha]
    · rw [if_neg (by rintro ⟨_, _, z⟩; exact ha z), if_neg ha]
  have par1 : ∀ x, inert x → ∀ acc cur t, cutL true acc 0 cur (par x ++ t) = if ahd t = true then cutL true (acc ++ [cur ++ par x]) 0 [] t else cutL true acc 0 (cur ++ par x) t := fun x hx acc cur t => by
    have e0 : par x ++ t = 40 :: (x ++ 41 :: t) := by simp [par]
    rw [e0]
    conv => lhs; unfold cutL
    have e : stepDep 0 40 = some 1 := rfl
    rw [e]
    dsimp only
    rw [if_neg (by rintro ⟨z, _⟩; cases z), if_neg (by rintro ⟨_, z, _⟩; omega), hx true acc 0 _ _]
    conv => lhs; unfold cutL
    have e2 : stepDep (0 + 1) 41 = some 0 := rfl
    rw [e2]
    dsimp only
    rw [if_neg (by rintro ⟨z, _⟩; cases z)]
    have e3 : cur ++ [40] ++ x ++ [41] = cur ++ par x := by simp [par]
    rw [e3]
    by_cases ha : ahd t = true
    · rw [if_pos ⟨rfl, rfl, ha⟩, if_pos ha]
    · rw [if_neg (by rintro ⟨_, _, z⟩; exact ha z), if_neg ha]
  intro b
  induction b with
  | none => exact fun h => one 48 (by decide) (by decide)
  | empty => exact fun h => one 49 (by decide) (by decide)
  | sign c => exact fun h => one c (sig_ne h).1 (sig_ne h).2.1
  | or a b _ _ => exact fun h => par1 _ (wr_inert (.or a b) h)
  | thn a b _ _ => exact fun h => par1 _ (wr_inert (.thn a b) h)
  | star a iha =>
    intro h acc cur t
    have e0 : brA (.star a) = brA a ++ [42] := rfl
    have e : brA (.star a) ++ t = brA a ++ 42 :: t := by rw [e0]; simp
    rw [e, iha h, if_neg (by simp [ahd]), one 42 (by decide) (by decide), e0, List.append_assoc]
/-- the atoms of a row -/
def tpcs : Re → List (List Nat)
  | .thn a b => (if a.isOr then [brA a] else tpcs a) ++ [brA b]
  | r => [brA r]
theorem ahd_brA {b : Re} (h : b.ok) (t : List Nat) : ahd (brA b ++ t) = true := by
  obtain ⟨c, u, e, h1, _⟩ := brA_begins h
  rw [e]
  simp [ahd, h1]
theorem cut_row1 {b : Re} (h : b.ok) (acc : List (List Nat)) : (∀ t, ahd t = true → cutL true acc 0 [] (brA b ++ t) = cutL true (acc ++ [brA b]) 0 [] t) ∧ cutL true acc 0 [] (brA b) = some (acc ++ [brA b]) := by
  refine ⟨fun t ht => ?_, ?_⟩
  · rw [cut_atom b h, if_pos ht]; rfl
  · have := cut_atom b h acc [] []
    rw [List.append_nil, if_neg (by simp [ahd])] at this
    rw [this]
    simp [cutL]
theorem cut_row : ∀ r : Re, r.ok → r.isOr = false → (∀ acc t, ahd t = true → cutL true acc 0 [] (wr r ++ t) = cutL true (acc ++ tpcs r) 0 [] t) ∧ ∀ acc, cutL true acc 0 [] (wr r) = some (acc ++ tpcs r) := by
  intro r
  induction r with
  | none => exact fun h _ => ⟨fun acc => (cut_row1 (b := .none) h acc).1, fun acc => (cut_row1 (b := .none) h acc).2⟩
  | empty => exact fun h _ => ⟨fun acc => (cut_row1 (b := .empty) h acc).1, fun acc => (cut_row1 (b := .empty) h acc).2⟩
  | sign c => exact fun h _ => ⟨fun acc => (cut_row1 (b := .sign c) h acc).1, fun acc => (cut_row1 (b := .sign c) h acc).2⟩
  | star a _ => exact fun h _ => ⟨fun acc => (cut_row1 (b := .star a) h acc).1, fun acc => (cut_row1 (b := .star a) h acc).2⟩
  | or a b _ _ => exact fun _ ho => by cases ho
  | thn a b iha ihb =>
    intro h _
    have first : ∀ acc u, ahd u = true → cutL true acc 0 [] (brO a ++ u) = cutL true (acc ++ (if a.isOr then [brA a] else tpcs a)) 0 [] u := fun acc u hu => by
      unfold brO
      cases ho : a.isOr with
      | true =>
        have eb : par (wr a) = brA a := by unfold brA; rw [ho]; rfl
        simp only [if_true]
        rw [eb]
        exact (cut_row1 h.1 acc).1 u hu
      | false =>
        simp only [Bool.false_eq_true, if_false]
        exact (iha h.1 ho).1 acc u hu
    refine ⟨fun acc t ht => ?_, fun acc => ?_⟩
    · have e : wr (.thn a b) ++ t = brO a ++ (brA b ++ t) := by rw [wr_thn]; simp
      rw [e, first acc _ (ahd_brA h.2 t), (cut_row1 h.2 _).1 t ht]
      simp [tpcs]
    · rw [wr_thn, first acc _ (by have := ahd_brA h.2 []; rwa [List.append_nil] at this), (cut_row1 h.2 _).2]
      simp [tpcs]
theorem joinL_app {mk : Re → Re → Re} {f : List Nat → Option Re} {y : List Nat} {q : Re} (hy : f y = some q) : ∀ (xs : List (List Nat)) (r s : Re), joinL mk f r xs = some s → joinL mk f r (xs ++ [y]) = some (mk s q)
  | [], r, s, h => by cases h; simp [joinL, hy]
  | x :: xs, r, s, h => by
    rw [List.cons_append]
    unfold joinL at h ⊢
    cases e : f x with
    | none => rw [e] at h; cases h
    | some z =>
      rw [e] at h
      exact joinL_app hy xs _ _ h
theorem joinR_app {mk : Re → Re → Re} {f : List Nat → Option Re} {xs : List (List Nat)} {y : List Nat} {q s : Re} (hy : f y = some q) (h : joinR mk f (some xs) = some s) : joinR mk f (some (xs ++ [y])) = some (mk s q) := by
  cases xs with
  | nil => cases h
  | cons x xs =>
    rw [List.cons_append]
    unfold joinR at h ⊢
    dsimp only at h ⊢
    cases e : f x with
    | none => rw [e] at h; cases h
    | some z =>
      rw [e] at h
      exact joinL_app hy xs _ _ h
theorem joinR_one {mk : Re → Re → Re} {f : List Nat → Option Re} {y : List Nat} {q : Re} (hy : f y = some q) : joinR mk f (some [y]) = some q := by
  unfold joinR
  dsimp only
  rw [hy]
  rfl
theorem brA_of {r : Re} (h1 : r.isOr = false) (h2 : r.isThn = false) : brA r = wr r := by unfold brA; rw [h1, h2]; rfl
theorem lrt : ∀ (m : Nat) (r : Re), r.ht ≤ m → r.ok → (∀ n, (brA r).length < n → atomF n (brA r) = some r) ∧ (∀ n, r.isOr = false → (wr r).length < n → rowF (atomF n) (wr r) = some r) ∧ ∀ n, (wr r).length < n → wholeF (atomF n) (wr r) = some r := by
  intro m
  induction m with
  | zero => intro r h; have := r.ht_pos; omega
  | succ m ih =>
    intro r hm hr
    have A0 : r.isOr = false → r.isThn = false → ∀ n, (brA r).length < n → atomF n (brA r) = some r := by
      intro h1 h2 n hn
      obtain ⟨k, rfl⟩ : ∃ k, n = k + 1 := ⟨n - 1, by omega⟩
      cases r with
      | none => rfl
      | empty => rfl
      | sign c =>
        have hc : c ∈ sigs := hr
        obtain ⟨c1, c2, c3, c4, c5, c6⟩ := sig_ne hc
        show atomF (k + 1) [c] = _
        unfold atomF
        rw [if_neg (by rintro ⟨z, _⟩; simp at z), if_neg (by rintro ⟨z, _⟩; simp at z; exact c1 z)]
        dsimp only
        unfold leafR
        rw [if_neg c5, if_neg c6, if_pos hc]
      | or _ _ => cases h1
      | thn _ _ => cases h2
      | star a =>
        have hta : a.ht ≤ m := by simp only [Re.ht] at hm; omega
        have e0 : brA (.star a) = brA a ++ [42] := rfl
        rw [e0] at hn ⊢
        rw [List.length_append, List.length_singleton] at hn
        have ne := brA_ne (r := a) hr
        unfold atomF
        rw [if_pos ⟨by rw [List.length_append, List.length_singleton]; omega, by simp⟩, List.dropLast_concat, (ih a hta hr).1 k (by omega)]
        rfl
    have R0 : ∀ n, r.isOr = false → (wr r).length < n → rowF (atomF n) (wr r) = some r := by
      intro n ho hn
      unfold rowF
      rw [(cut_row r hr ho).2 [], List.nil_append]
      cases r with
      | or _ _ => cases ho
      | thn a b =>
        have hta : a.ht ≤ m := by simp only [Re.ht] at hm; omega
        have htb : b.ht ≤ m := by simp only [Re.ht] at hm; omega
        rw [wr_thn, List.length_append] at hn
        have nb := brA_ne (r := b) hr.2
        have hb := (ih b htb hr.2).1 n (by omega)
        refine joinR_app hb ?_
        unfold brO at hn
        cases hoa : a.isOr with
        | true =>
          rw [hoa] at hn
          have eb : par (wr a) = brA a := by unfold brA; rw [hoa]; rfl
          simp only [if_true] at hn ⊢
          rw [eb] at hn
          exact joinR_one ((ih a hta hr.1).1 n (by omega))
        | false =>
          rw [hoa] at hn
          simp only [Bool.false_eq_true, if_false] at hn ⊢
          have := (ih a hta hr.1).2.1 n hoa (by omega)
          unfold rowF at this
          rw [(cut_row a hr.1 hoa).2 [], List.nil_append] at this
          exact this
      | none => exact joinR_one (A0 rfl rfl n hn)
      | empty => exact joinR_one (A0 rfl rfl n hn)
      | sign c => exact joinR_one (A0 rfl rfl n hn)
      | star a => exact joinR_one (A0 rfl rfl n hn)
    have rowA : ∀ {q : Re} (n : Nat), q.ok → atomF n (brA q) = some q → rowF (atomF n) (brA q) = some q := fun {q} n hq h => by
      unfold rowF
      rw [(cut_row1 hq []).2, List.nil_append]
      exact joinR_one h
    have W0 : ∀ n, (wr r).length < n → wholeF (atomF n) (wr r) = some r := by
      intro n hn
      unfold wholeF
      rw [(cut_bar r hr).2 [], List.nil_append]
      cases r with
      | or a b =>
        have hta : a.ht ≤ m := by simp only [Re.ht] at hm; omega
        have htb : b.ht ≤ m := by simp only [Re.ht] at hm; omega
        rw [wr_or, List.length_append, List.length_cons] at hn
        have ha := (ih a hta hr.1).2.2 n (by omega)
        unfold wholeF at ha
        rw [(cut_bar a hr.1).2 [], List.nil_append] at ha
        refine joinR_app ?_ ha
        unfold brO at hn ⊢
        cases hob : b.isOr with
        | true =>
          rw [hob] at hn
          have eb : par (wr b) = brA b := by unfold brA; rw [hob]; rfl
          simp only [if_true] at hn ⊢
          rw [eb] at hn ⊢
          exact rowA n hr.2 ((ih b htb hr.2).1 n (by omega))
        | false =>
          rw [hob] at hn
          simp only [Bool.false_eq_true, if_false] at hn ⊢
          exact (ih b htb hr.2).2.1 n hob (by omega)
      | none => exact joinR_one (R0 n rfl hn)
      | empty => exact joinR_one (R0 n rfl hn)
      | sign c => exact joinR_one (R0 n rfl hn)
      | star a => exact joinR_one (R0 n rfl hn)
      | thn a b => exact joinR_one (R0 n rfl hn)
    refine ⟨fun n hn => ?_, R0, W0⟩
    by_cases hb : (r.isOr || r.isThn) = true
    · have eb : brA r = par (wr r) := by unfold brA; rw [if_pos hb]
      rw [eb] at hn ⊢
      rw [par_len] at hn
      obtain ⟨k, rfl⟩ : ∃ k, n = k + 1 := ⟨n - 1, by omega⟩
      have hlast : (par (wr r)).getLast? = some 41 := by
        show (40 :: (wr r ++ [41])).getLast? = some 41
        rw [← List.cons_append, List.getLast?_concat]
      unfold atomF
      rw [if_neg (by rintro ⟨_, z⟩; rw [hlast] at z; cases z), if_pos ⟨rfl, hlast⟩]
      have e : (par (wr r)).tail.dropLast = wr r := by
        show (wr r ++ [41]).dropLast = _
        rw [List.dropLast_concat]
      rw [e]
      exact W0 k (by omega)
    · have hb' : r.isOr = false ∧ r.isThn = false := by simpa using hb
      exact A0 hb'.1 hb'.2 n hn
/-- what the law reads -/
def lrd (T : List Nat) : Option Re := match wholeF (atomF (T.length + 1)) T with
  | some r => if wr r = T then some r else none
  | none => none
theorem lrd_some {T : List Nat} {r : Re} : lrd T = some r ↔ r.ok ∧ wr r = T := by
  constructor
  · intro h
    unfold lrd at h
    split at h
    · rename_i q e
      split at h
      · cases h
        exact ⟨(wholeF_ls (fun p _ q hq => atomF_ls _ p q hq) e).1, by assumption⟩
      · cases h
    · cases h
  · rintro ⟨h, rfl⟩
    unfold lrd
    rw [(lrt r.ht r (Nat.le_refl _) h).2.2 _ (Nat.lt_succ_self _)]
    dsimp only
    rw [if_pos rfl]
theorem lrd_prd (T : List Nat) : lrd T = prd T := by
  cases h : prd T with
  | some r => exact lrd_some.mpr (prd_some.mp h)
  | none =>
    cases g : lrd T with
    | none => rfl
    | some r => rw [prd_some.mpr (lrd_some.mp g)] at h; cases h
end SL
set_option Elab.async false
set_option linter.all false
set_option maxRecDepth 100000
set_option maxHeartbeats 2000000
/-! F6: the law's cut walks as the plain one. -/
namespace SL
open PySem
variable {Φ : Nat → Option Def}
theorem upFrom_succ (lo : Int) (n : Nat) : upFrom lo (n + 1) = .int lo :: upFrom (lo + 1) n := by
  unfold upFrom
  rw [List.range_succ_eq_map, List.map_cons, List.map_map]
  congr 1
  · simp
  · refine List.map_congr_left fun i _ => ?_
    simp only [Function.comp]
    congr 1
    omega
theorem cut_nn {α : Type} {w : List α} {a b : Nat} (hab : a ≤ b) (hb : b ≤ w.length) : cut w (some (a : Int)) (some (b : Int)) = (w.drop a).take (b - a) := by
  unfold cut cutAt
  have h1 : ¬ ((a : Int) < 0) := by omega
  have h2 : ¬ ((b : Int) < 0) := by omega
  have e1 : min (a : Int).toNat w.length = a := by omega
  have e2 : min (b : Int).toNat w.length = b := by omega
  simp only [if_neg h1, if_neg h2, e1, e2]
theorem cut_no {α : Type} {w : List α} {a : Nat} (ha : a ≤ w.length) : cut w (some (a : Int)) none = w.drop a := by
  unfold cut cutAt
  have h1 : ¬ ((a : Int) < 0) := by omega
  have e1 : min (a : Int).toNat w.length = a := by omega
  simp only [if_neg h1, e1]
  rw [List.take_of_length_le]
  rw [List.length_drop]
  omega
theorem set_last (S : Sto) (x y : Ob) : (S ++ [x]).set S.length y = S ++ [y] := by simp
theorem get_last (S : Sto) (x : Ob) : (S ++ [x])[S.length]? = some x := by simp
theorem app_val {c : Nat → List D → Sto → Out D} {f : FS} {e : E} {d : D} {xs : List D} {S : Sto} (he : evE c e f (S ++ [.lst xs]) = .ok d (S ++ [.lst xs])) (hl : xs.length < sz) : mthX .append (evEs c (.cons e .nil)) f (.ref S.length) (S ++ [.lst xs]) = .ok .non (S ++ [.lst (xs ++ [d])]) := by
  unfold mthX
  have r : recv .append (S ++ [.lst xs]) (.ref S.length) = true := by
    unfold recv
    simp
  rw [if_pos r]
  simp only [evs_cons, he, Out.ok_bind, evs_nil]
  unfold mthD
  simp only [get_last]
  rw [if_pos hl, set_last]
def sgn (row : Bool) : List Nat := if row then [] else [124]
def cutBody : Ss := (.cons (.asg (.name 3) (.bin .sub (.bin .add (.var 3) (.blt .int (.cons (.cmp .eq (.sub (.var 0) (.var 5)) (.cst (.str [40]))) .nil))) (.blt .int (.cons (.cmp .eq (.sub (.var 0) (.var 5)) (.cst (.str [41]))) .nil)))) (.cons (.ifs (.cmp .lt (.var 3) (.cst (.int 0))) (.cons (.ret (.cst .non)) .nil) .nil) (.cons (.ifs (.and (.cmp .eq (.var 1) (.cst (.str [124]))) (.and (.cmp .eq (.sub (.var 0) (.var 5)) (.cst (.str [124]))) (.cmp .eq (.var 3) (.cst (.int 0))))) (.cons (.exp (.mth .append (.var 2) (.cons (.slc (.var 0) (.yes (.var 4)) (.yes (.var 5))) .nil))) (.cons (.asg (.name 4) (.bin .add (.var 5) (.cst (.int 1)))) .nil)) .nil) (.cons (.asg (.name 6) (.slc (.var 0) (.yes (.bin .add (.var 5) (.cst (.int 1)))) (.yes (.bin .add (.var 5) (.cst (.int 2)))))) (.cons (.ifs (.and (.cmp .eq (.var 1) (.cst (.str []))) (.and (.cmp .eq (.var 3) (.cst (.int 0))) (.cmp .notin (.var 6) (.lst (.cons (.cst (.str [])) (.cons (.cst (.str [42])) .nil)))))) (.cons (.exp (.mth .append (.var 2) (.cons (.slc (.var 0) (.yes (.var 4)) (.yes (.bin .add (.var 5) (.cst (.int 1))))) .nil))) (.cons (.asg (.name 4) (.bin .add (.var 5) (.cst (.int 1)))) .nil)) .nil) .nil)))))
theorem body_cut : f351_L_cut.body = .cons (.asg (.name 2) (.newL .nil)) (.cons (.asg (.name 3) (.cst (.int 0))) (.cons (.asg (.name 4) (.cst (.int 0))) (.cons (.fors (.name 5) (.range1 (.blt .len (.cons (.var 0) .nil))) cutBody) (.cons (.ifs (.cmp .ne (.var 3) (.cst (.int 0))) (.cons (.ret (.cst .non)) .nil) .nil) (.cons (.ret (.bin .add (.var 2) (.lst (.cons (.slc (.var 0) (.yes (.var 4)) .no) .nil)))) .nil))))) := rfl
def txs (ps : List (List Nat)) : List D := ps.map D.str
section
variable {T : List Nat} {S : Sto}
/-- the state of the loop -/
def cutF (T : List Nat) (row : Bool) (k : Nat) (d b : Nat) (o5 o6 : Option D) : FS := [some (.str T), some (.str (sgn row)), some (.ref k), some (.int d), some (.int b), o5, o6]
theorem cut_turn (c : Nat → List D → Sto → Out D) (hT : Tx T) (row : Bool) {pre t : List Nat} {ch : Nat} (e : T = pre ++ ch :: t) {acc : List (List Nat)} (ha : acc.length ≤ pre.length) {d b : Nat} (hb : b ≤ pre.length) {o5 o6 : Option D} :
    match stepDep d ch with
    | none => forB (.name 5) (evSs c cutBody) (.int pre.length) (cutF T row S.length d b o5 o6) (S ++ [.lst (txs acc)]) = .ret .non (S ++ [.lst (txs acc)])
    | some d' => ∃ o6', forB (.name 5) (evSs c cutBody) (.int pre.length) (cutF T row S.length d b o5 o6) (S ++ [.lst (txs acc)]) =
        if row = false ∧ ch = 124 ∧ d' = 0 then .nx (cutF T row S.length d' (pre.length + 1) (some (.int pre.length)) o6') (S ++ [.lst (txs (acc ++ [pre.drop b]))])
        else if row = true ∧ d' = 0 ∧ ahd t = true then .nx (cutF T row S.length d' (pre.length + 1) (some (.int pre.length)) o6') (S ++ [.lst (txs (acc ++ [pre.drop b ++ [ch]]))])
        else .nx (cutF T row S.length d' b (some (.int pre.length)) o6') (S ++ [.lst (txs acc)]) := by
  have hz : T.length ≤ sz := Nat.le_trans hT.le (by decide)
  have hlen : T.length = pre.length + (t.length + 1) := by rw [e]; simp
  have hT' := hT.le
  have al : (txs acc).length < sz := by simp only [txs, List.length_map]; show _ < 16777216; omega
  have sub : ∀ Z, subD (.str T) (.int (pre.length : Nat)) Z = .ok (.str [ch]) Z := fun Z => by
    have q : ((pre.length : Nat) : Int) < (T.length : Int) := by omega
    have g : T[pre.length]? = some ch := by rw [e]; simp
    simp [subD, hz, placeOf, q, g]
  have sl1 : ∀ Z, slcD (.str T) (some (b : Int)) (some (pre.length : Int)) Z = .ok (.str (pre.drop b)) Z := fun Z => by
    unfold slcD
    dsimp only
    rw [if_pos hz, cut_nn hb (by omega), e, List.drop_append_of_le_length hb, List.take_left' (by simp)]
  have sl2 : ∀ Z, slcD (.str T) (some (b : Int)) (some ((pre.length : Int) + 1)) Z = .ok (.str (pre.drop b ++ [ch])) Z := fun Z => by
    unfold slcD
    dsimp only
    rw [if_pos hz, show ((pre.length : Int) + 1) = ((pre.length + 1 : Nat) : Int) by omega, cut_nn (by omega) (by omega), e, List.drop_append_of_le_length hb]
    have e2 : pre.drop b ++ ch :: t = (pre.drop b ++ [ch]) ++ t := by simp
    rw [e2, List.take_left' (by simp; omega)]
  have sl3 : ∀ Z, slcD (.str T) (some ((pre.length : Int) + 1)) (some ((pre.length : Int) + 2)) Z = .ok (.str (t.take 1)) Z := fun Z => by
    unfold slcD
    dsimp only
    have q := cut_one (w := T) (i := pre.length + 1) (by omega)
    rw [if_pos hz, show ((pre.length : Int) + 1) = ((pre.length + 1 : Nat) : Int) by omega, show ((pre.length : Int) + 2) = ((pre.length + 1 : Nat) : Int) + 1 by omega, q, e]
    congr 2
    simp
  have dt1 : Dt (.str (t.take 1)) := Dt.str fun x hx => hT.lt x (by rw [e]; simp [List.mem_of_mem_take hx])
  have d0 : Dt (.str []) := dts rfl
  have d2 : Dt (.str [42]) := dts rfl
  have ah : ∀ Z, cmpD .notin (.str (t.take 1)) (.lst [.str [], .str [42]]) Z = .ok (.bl (ahd t)) Z := fun Z => by
    rw [in_two' dt1 d0 d2]
    congr 2
    cases t with
    | nil => rfl
    | cons x t => simp [ahd]
  have ap1 := fun (f : FS) he => app_val (f := f) (he := he) (c := c) (e := .slc (.var 0) (.yes (.var 4)) (.yes (.var 5))) (xs := txs acc) (S := S) (d := .str (pre.drop b)) (hl := al)
  have ap2 := fun (f : FS) he => app_val (f := f) (he := he) (c := c) (e := .slc (.var 0) (.yes (.var 4)) (.yes (.bin .add (.var 5) (.cst (.int 1))))) (xs := txs acc) (S := S) (d := .str (pre.drop b ++ [ch])) (hl := al)
  have key : ∀ d' : Nat, (∀ Z, ∃ i j : Int, (d : Int) + i - j = (d' : Int) ∧ bltD .int [.bl (decide ([ch] = [40]))] Z = .ok (.int i) Z ∧ bltD .int [.bl (decide ([ch] = [41]))] Z = .ok (.int j) Z) → ∃ o6', forB (.name 5) (evSs c cutBody) (.int pre.length) (cutF T row S.length d b o5 o6) (S ++ [.lst (txs acc)]) =
        if row = false ∧ ch = 124 ∧ d' = 0 then .nx (cutF T row S.length d' (pre.length + 1) (some (.int pre.length)) o6') (S ++ [.lst (txs (acc ++ [pre.drop b]))])
        else if row = true ∧ d' = 0 ∧ ahd t = true then .nx (cutF T row S.length d' (pre.length + 1) (some (.int pre.length)) o6') (S ++ [.lst (txs (acc ++ [pre.drop b ++ [ch]]))])
        else .nx (cutF T row S.length d' b (some (.int pre.length)) o6') (S ++ [.lst (txs acc)]) := by
    intro d' hij
    obtain ⟨i, j, q1, q2, q3⟩ := hij (S ++ [.lst (txs acc)])
    refine ⟨some (.str (t.take 1)), ?_⟩
    have lt : decide ((d' : Int) < 0) = false := by simp
    have ea : ∀ x, txs (acc ++ [x]) = txs acc ++ [.str x] := fun x => by simp [txs]
    have p1 : ((pre.length + 1 : Nat) : Int) = (pre.length : Int) + 1 := by omega
    have dz : decide ((d' : Int) = 0) = decide (d' = 0) := by apply decide_eq_decide.mpr; omega
    have pre1 : forB (.name 5) (evSs c cutBody) (.int pre.length) (cutF T row S.length d b o5 o6) (S ++ [.lst (txs acc)]) = evSs c (.cons (.ifs (.and (.cmp .eq (.var 1) (.cst (.str [124]))) (.and (.cmp .eq (.sub (.var 0) (.var 5)) (.cst (.str [124]))) (.cmp .eq (.var 3) (.cst (.int 0))))) (.cons (.exp (.mth .append (.var 2) (.cons (.slc (.var 0) (.yes (.var 4)) (.yes (.var 5))) .nil))) (.cons (.asg (.name 4) (.bin .add (.var 5) (.cst (.int 1)))) .nil)) .nil) (.cons (.asg (.name 6) (.slc (.var 0) (.yes (.bin .add (.var 5) (.cst (.int 1)))) (.yes (.bin .add (.var 5) (.cst (.int 2)))))) (.cons (.ifs (.and (.cmp .eq (.var 1) (.cst (.str []))) (.and (.cmp .eq (.var 3) (.cst (.int 0))) (.cmp .notin (.var 6) (.lst (.cons (.cst (.str [])) (.cons (.cst (.str [42])) .nil)))))) (.cons (.exp (.mth .append (.var 2) (.cons (.slc (.var 0) (.yes (.var 4)) (.yes (.bin .add (.var 5) (.cst (.int 1))))) .nil))) (.cons (.asg (.name 4) (.bin .add (.var 5) (.cst (.int 1)))) .nil)) .nil) .nil))) (cutF T row S.length d' b (some (.int pre.length)) o6) (S ++ [.lst (txs acc)]) := by
      unfold cutF
      simp only [forB, bind_name, setAt_succ, setAt_zero, cutBody, evSs_cons, evS_asg, ev_bin, ev_var, getS_zero, getS_succ, Out.ok_bind, ev_blt, evs_cons, evs_nil, ev_cmp, ev_sub, sub, ev_cst, cmp_eq (eqD_str' _ _ _), q2, bin_add, q3, bin_sub, q1, Out.so_ok, asg_name, thenS_nx, evS_ifs, cmp_lt_int, lt, ifD_false, evSs_nil]
    rw [pre1]
    cases row with
    | false =>
      have s1 : sgn false = [124] := rfl
      by_cases hc : ch = 124 ∧ d' = 0
      · obtain ⟨rfl, rfl⟩ := hc
        rw [if_pos ⟨rfl, rfl, rfl⟩, ea]
        unfold cutF
        rw [s1, p1]
        have ap := ap1 ([some (.str T), some (.str [124]), some (.ref S.length), some (.int 0), some (.int b), some (.int pre.length), o6]) (by simp only [ev_slc, ev_var, getS_zero, getS_succ, Out.ok_bind, evb_yes, bnd_int, sl1])
        simp only [evSs_cons, evS_ifs, ev_and, ev_cmp, ev_var, getS_zero, getS_succ, ev_cst, Out.ok_bind, cmp_eq (eqD_str' _ _ _), decide_true, andD_true, ev_sub, sub, cmp_eq_int, Int.natCast_zero, Out.so_ok, ifD_true, evS_exp, ev_mth, ap, thenS_nx, evS_asg, ev_bin, bin_add, asg_name, setAt_succ, setAt_zero, evSs_nil, ev_slc, evb_yes, bnd_int, sl3, show decide (([124] : List Nat) = []) = false from rfl, andD_false, ifD_false]
      · have nc : (decide ([ch] = [124]) && decide ((d' : Int) = 0)) = false := by
          rw [dz]; simpa using fun h => fun z => hc ⟨h, z⟩
        rw [if_neg (by rintro ⟨_, h⟩; exact hc h), if_neg (by rintro ⟨h, _⟩; cases h)]
        unfold cutF
        rw [s1]
        cases h1 : decide ([ch] = [124]) with
        | false => simp only [evSs_cons, evS_ifs, ev_and, ev_cmp, ev_var, getS_zero, getS_succ, ev_cst, Out.ok_bind, cmp_eq (eqD_str' _ _ _), decide_true, andD_true, ev_sub, sub, h1, andD_false, Out.so_ok, ifD_false, thenS_nx, evS_asg, ev_bin, bin_add, asg_name, setAt_succ, setAt_zero, evSs_nil, ev_slc, evb_yes, bnd_int, sl3, show decide (([124] : List Nat) = []) = false from rfl]
        | true =>
          rw [h1, Bool.true_and] at nc
          simp only [evSs_cons, evS_ifs, ev_and, ev_cmp, ev_var, getS_zero, getS_succ, ev_cst, Out.ok_bind, cmp_eq (eqD_str' _ _ _), decide_true, andD_true, ev_sub, sub, h1, cmp_eq_int, nc, andD_false, Out.so_ok, ifD_false, thenS_nx, evS_asg, ev_bin, bin_add, asg_name, setAt_succ, setAt_zero, evSs_nil, ev_slc, evb_yes, bnd_int, sl3, show decide (([124] : List Nat) = []) = false from rfl]
    | true =>
      have s1 : sgn true = [] := rfl
      rw [if_neg (by rintro ⟨h, _⟩; cases h)]
      have ln2 : ∀ x y : D, (List.length [x, y] ≤ sz) = True := fun _ _ => eq_true (by simp)
      by_cases hc : d' = 0 ∧ ahd t = true
      · obtain ⟨rfl, hah⟩ := hc
        rw [if_pos ⟨rfl, rfl, hah⟩, ea]
        unfold cutF
        rw [s1, p1]
        have ap := ap2 ([some (.str T), some (.str []), some (.ref S.length), some (.int 0), some (.int b), some (.int pre.length), some (.str (t.take 1))]) (by simp only [ev_slc, ev_var, getS_zero, getS_succ, Out.ok_bind, evb_yes, bnd_int, ev_bin, ev_cst, bin_add, sl2])
        simp only [evSs_cons, evS_ifs, ev_and, ev_cmp, ev_var, getS_zero, getS_succ, ev_cst, Out.ok_bind, cmp_eq (eqD_str' _ _ _), show decide (([] : List Nat) = [124]) = false from rfl, andD_false, Out.so_ok, ifD_false, evSs_nil, thenS_nx, evS_asg, ev_slc, evb_yes, bnd_int, ev_bin, bin_add, sl3, asg_name, setAt_succ, setAt_zero, decide_true, andD_true, cmp_eq_int, Int.natCast_zero, ev_lst, evs_cons, evs_nil, ln2, if_true, ah, hah, ifD_true, evS_exp, ev_mth, ap]
      · rw [if_neg (by rintro ⟨_, h⟩; exact hc h)]
        unfold cutF
        rw [s1]
        cases h1 : decide ((d' : Int) = 0) with
        | false => simp only [evSs_cons, evS_ifs, ev_and, ev_cmp, ev_var, getS_zero, getS_succ, ev_cst, Out.ok_bind, cmp_eq (eqD_str' _ _ _), show decide (([] : List Nat) = [124]) = false from rfl, andD_false, Out.so_ok, ifD_false, evSs_nil, thenS_nx, evS_asg, ev_slc, evb_yes, bnd_int, ev_bin, bin_add, sl3, asg_name, setAt_succ, setAt_zero, decide_true, andD_true, cmp_eq_int, h1]
        | true =>
          have h2 : ahd t = false := by
            rw [dz] at h1
            cases h3 : ahd t with
            | false => rfl
            | true => exact absurd ⟨of_decide_eq_true h1, h3⟩ hc
          simp only [evSs_cons, evS_ifs, ev_and, ev_cmp, ev_var, getS_zero, getS_succ, ev_cst, Out.ok_bind, cmp_eq (eqD_str' _ _ _), show decide (([] : List Nat) = [124]) = false from rfl, andD_false, Out.so_ok, ifD_false, evSs_nil, thenS_nx, evS_asg, ev_slc, evb_yes, bnd_int, ev_bin, bin_add, sl3, asg_name, setAt_succ, setAt_zero, decide_true, andD_true, cmp_eq_int, h1, ev_lst, evs_cons, evs_nil, ln2, if_true, ah, h2]
  unfold stepDep
  by_cases h40 : ch = 40
  · subst h40
    rw [if_pos rfl]
    exact key (d + 1) fun Z => ⟨1, 0, by omega, rfl, rfl⟩
  · rw [if_neg h40]
    have n40 : decide ([ch] = [40]) = false := by simp [h40]
    by_cases h41 : ch = 41
    · subst h41
      rw [if_pos rfl]
      by_cases hd : d = 0
      · subst hd
        rw [if_pos rfl]
        unfold cutF
        simp only [forB, bind_name, setAt_succ, setAt_zero, cutBody, evSs_cons, evS_asg, ev_bin, ev_var, getS_zero, getS_succ, Out.ok_bind, ev_blt, evs_cons, evs_nil, ev_cmp, ev_sub, sub, ev_cst, cmp_eq (eqD_str' _ _ _), show decide (([41] : List Nat) = [40]) = false from rfl, show decide (([41] : List Nat) = [41]) = true from rfl, int_bl, bin_add, bin_sub, Out.so_ok, asg_name, thenS_nx, evS_ifs, cmp_lt_int]
        rfl
      · rw [if_neg hd]
        exact key (d - 1) fun Z => ⟨0, 1, by omega, rfl, rfl⟩
    · rw [if_neg h41]
      have n41 : decide ([ch] = [41]) = false := by simp [h41]
      exact key d fun Z => ⟨0, 0, by omega, by rw [n40]; rfl, by rw [n41]; rfl⟩
theorem cut_loop (c : Nat → List D → Sto → Out D) (hT : Tx T) (row : Bool) : ∀ (t pre : List Nat) (acc : List (List Nat)) (d b : Nat) (o5 o6 : Option D), T = pre ++ t → acc.length ≤ pre.length → b ≤ pre.length →
    (∃ acc2, forL [] (forB (.name 5) (evSs c cutBody)) (upFrom (pre.length : Int) t.length) (cutF T row S.length d b o5 o6) (S ++ [.lst (txs acc)]) = .ret .non (S ++ [.lst acc2]) ∧ cutL row acc d (pre.drop b) t = none) ∨
    ∃ acc' d' b' o5' o6', forL [] (forB (.name 5) (evSs c cutBody)) (upFrom (pre.length : Int) t.length) (cutF T row S.length d b o5 o6) (S ++ [.lst (txs acc)]) = .nx (cutF T row S.length d' b' o5' o6') (S ++ [.lst (txs acc')]) ∧ b' ≤ T.length ∧ acc'.length ≤ T.length ∧ cutL row acc d (pre.drop b) t = if d' = 0 then some (acc' ++ [T.drop b']) else none
  | [], pre, acc, d, b, o5, o6, e, ha, hb => by
    right
    rw [List.append_nil] at e
    refine ⟨acc, d, b, o5, o6, ?_, by rw [e]; exact hb, by rw [e]; exact ha, ?_⟩
    · show forL [] _ [] _ _ = _
      unfold forL
      rw [if_pos (chk_nil _)]
    · unfold cutL
      rw [e]
  | ch :: t, pre, acc, d, b, o5, o6, e, ha, hb => by
    have tn := cut_turn c hT row (S := S) e ha (d := d) hb (o5 := o5) (o6 := o6)
    have en : T = (pre ++ [ch]) ++ t := by rw [e]; simp
    have ln : (pre ++ [ch]).length = pre.length + 1 := by simp
    have up : upFrom (pre.length : Int) (ch :: t).length = .int (pre.length : Int) :: upFrom ((pre ++ [ch]).length : Int) t.length := by
      rw [List.length_cons, upFrom_succ, ln]
      congr 2
    rw [up]
    conv => rhs; rhs; ext acc'; rhs; ext d'; rhs; ext b'; rhs; ext o5'; rhs; ext o6'; rw [cutL]
    conv => lhs; rhs; ext acc2; rw [cutL]
    unfold forL
    rw [if_pos (chk_nil _)]
    cases hs : stepDep d ch with
    | none =>
      rw [hs] at tn
      left
      exact ⟨txs acc, by rw [tn], rfl⟩
    | some d1 =>
      rw [hs] at tn
      obtain ⟨o6', tn⟩ := tn
      rw [tn]
      dsimp only
      by_cases c1 : row = false ∧ ch = 124 ∧ d1 = 0
      · rw [if_pos c1]
        simp only [if_pos c1]
        have ih := cut_loop c hT row t (pre ++ [ch]) (acc ++ [pre.drop b]) d1 (pre.length + 1) (some (.int pre.length)) o6' en (by simp; omega) (Nat.le_of_eq ln.symm)
        rw [show (pre ++ [ch]).drop (pre.length + 1) = [] by exact List.drop_eq_nil_of_le (Nat.le_of_eq ln)] at ih
        exact ih
      · rw [if_neg c1]
        simp only [if_neg c1]
        by_cases c2 : row = true ∧ d1 = 0 ∧ ahd t = true
        · rw [if_pos c2]
          simp only [if_pos c2]
          have ih := cut_loop c hT row t (pre ++ [ch]) (acc ++ [pre.drop b ++ [ch]]) d1 (pre.length + 1) (some (.int pre.length)) o6' en (by simp; omega) (Nat.le_of_eq ln.symm)
          rw [show (pre ++ [ch]).drop (pre.length + 1) = [] by exact List.drop_eq_nil_of_le (Nat.le_of_eq ln)] at ih
          exact ih
        · rw [if_neg c2]
          simp only [if_neg c2]
          have ih := cut_loop c hT row t (pre ++ [ch]) acc d1 b (some (.int pre.length)) o6' en (by simp; omega) (by simp; omega)
          rw [show (pre ++ [ch]).drop b = pre.drop b ++ [ch] by rw [List.drop_append_of_le_length hb]] at ih
          exact ih
end
def cutD (o : Option (List (List Nat))) : D := match o with
  | none => .non
  | some ps => .lst (txs ps)
theorem gc_app {S T : Sto} {d : D} (h : ∃ n, pureD n d) : gc S d (S ++ T) = S := by
  unfold gc
  rw [if_pos ⟨h, List.prefix_append _ _⟩]
theorem pure_txs (ps : List (List Nat)) : ∃ n, pureD n (.lst (txs ps)) := ⟨2, fun d hd => by
  obtain ⟨x, _, rfl⟩ := List.mem_map.mp hd
  trivial⟩
theorem cut_val (h351 : Φ 351 = some f351_L_cut) {T : List Nat} (hT : Tx T) (row : Bool) {N : Nat} {S : Sto} : callN Φ (N + 1) 351 [.str T, .str (sgn row)] S = .ok (cutD (cutL row [] 0 [] T)) S := by
  have hz : T.length ≤ sz := Nat.le_trans hT.le (by decide)
  have hT' := hT.le
  have r1 : rng1D (.int (T.length : Int)) (S ++ [.lst []]) = .ok ⟨[], upFrom 0 T.length⟩ (S ++ [.lst []]) := by
    have e : rangeD 0 (T.length : Int) = some ⟨[], upFrom 0 T.length⟩ := by
      unfold rangeD
      rw [if_pos (by omega)]
      simp
    simp [rng1D, e]
  have lp := cut_loop (callN Φ N) hT row (S := S) T [] [] 0 0 none none rfl (Nat.le_refl _) (Nat.le_refl _)
  have st : start f351_L_cut [.str T, .str (sgn row)] = [some (.str T), some (.str (sgn row)), none, none, none, none, none] := rfl
  have pre1 : evSs (callN Φ N) f351_L_cut.body (start f351_L_cut [.str T, .str (sgn row)]) S = thenS (evSs (callN Φ N) (.cons (.ifs (.cmp .ne (.var 3) (.cst (.int 0))) (.cons (.ret (.cst .non)) .nil) .nil) (.cons (.ret (.bin .add (.var 2) (.lst (.cons (.slc (.var 0) (.yes (.var 4)) .no) .nil)))) .nil))) (forL [] (forB (.name 5) (evSs (callN Φ N) cutBody)) (upFrom 0 T.length) (cutF T row S.length 0 0 none none) (S ++ [.lst []])) := by
    rw [body_cut, st]
    simp only [evSs_cons, evS_asg, ev_new, ev_lst, evs_nil, Out.ok_bind, List.length_nil, Nat.zero_le, if_true, newD, Out.so_ok, asg_name, setAt_succ, setAt_zero, thenS_nx, ev_cst, evS_fors, evi_r1, ev_blt, evs_cons, ev_var, getS_zero, len_str T hz, r1]
    rfl
  rcases lp with ⟨acc2, e1, e2⟩ | ⟨acc', d', b', o5', o6', e1, hb', ha', e2⟩
  · rw [List.drop_nil] at e2
    rw [e2]
    have e1 : forL [] (forB (.name 5) (evSs (callN Φ N) cutBody)) (upFrom 0 T.length) (cutF T row S.length 0 0 none none) (S ++ [.lst []]) = .ret .non (S ++ [.lst acc2]) := e1
    rw [call_of h351 N _ S ⟨rfl, by decide⟩, pre1, e1]
    simp only [thenS_ret, endD_ret, cutD]
    rw [gc_app (d := .non) ⟨1, trivial⟩]
  · rw [List.drop_nil] at e2
    rw [e2]
    have e1 : forL [] (forB (.name 5) (evSs (callN Φ N) cutBody)) (upFrom 0 T.length) (cutF T row S.length 0 0 none none) (S ++ [.lst []]) = .nx (cutF T row S.length d' b' o5' o6') (S ++ [.lst (txs acc')]) := e1
    rw [call_of h351 N _ S ⟨rfl, by decide⟩, pre1, e1]
    by_cases hd : d' = 0
    · subst hd
      rw [if_pos rfl]
      have sl : ∀ Z, slcD (.str T) (some (b' : Int)) none Z = .ok (.str (T.drop b')) Z := fun Z => by
        unfold slcD
        dsimp only
        rw [if_pos hz, cut_no hb']
      have ad : binD .add (.ref S.length) (.lst [.str (T.drop b')]) (S ++ [.lst (txs acc')]) = .ok (.lst (txs (acc' ++ [T.drop b']))) (S ++ [.lst (txs acc')]) := by
        have hl : (txs acc').length + 1 ≤ sz := by simp only [txs, List.length_map]; show _ ≤ 16777216; omega
        simp only [binD, items, get_last, List.length_cons, List.length_nil, Nat.zero_add]
        rw [if_pos hl]
        simp [txs]
      unfold cutF
      simp only [thenS_nx, evSs_cons, evS_ifs, ev_cmp, ev_var, getS_zero, getS_succ, ev_cst, Out.ok_bind, cmp_ne_int, Int.natCast_zero, decide_true, Bool.not_true, Out.so_ok, ifD_false, evSs_nil, evS_ret, ev_bin, ev_lst, evs_cons, evs_nil, ev_slc, evb_yes, evb_no, bnd_int, sl, List.length_cons, List.length_nil, Nat.zero_add, le_sz 1 (by decide), if_true, ad, thenS_ret, endD_ret, cutD]
      rw [gc_app (pure_txs _)]
    · rw [if_neg hd]
      have hd' : decide ((d' : Int) = 0) = false := by simpa using hd
      unfold cutF
      simp only [thenS_nx, evSs_cons, evS_ifs, ev_cmp, ev_var, getS_zero, getS_succ, ev_cst, Out.ok_bind, cmp_ne_int, hd', Bool.not_false, Out.so_ok, ifD_true, evS_ret, thenS_ret, endD_ret, cutD]
      rw [gc_app (d := .non) ⟨1, trivial⟩]
end SL
set_option Elab.async false
set_option linter.all false
set_option maxRecDepth 100000
set_option maxHeartbeats 2000000
/-! F7: the law's reader walks as the plain one. -/
namespace SL
open PySem
variable {Φ : Nat → Option Def}
structure PhiL (Φ : Nat → Option Def) : Prop where
  h351 : Φ 351 = some f351_L_cut
  h352 : Φ 352 = some f352_L_joined
  h353 : Φ 353 = some f353_L_row_of
  h354 : Φ 354 = some f354_L_atom_of
  h355 : Φ 355 = some f355_L_whole_of
def joinBody : Ss := (.cons (.ifs (.cmp .eq (.var 0) (.cst (.str [116, 104, 101, 110]))) (.cons (.asg (.name 4) (.call 354 (.cons (.sub (.var 1) (.var 3)) .nil))) .nil) (.cons (.asg (.name 4) (.call 353 (.cons (.sub (.var 1) (.var 3)) .nil))) .nil)) (.cons (.ifs (.isN (.var 4)) (.cons (.ret (.cst .non)) .nil) .nil) (.cons (.asg (.name 2) (.sub (.lst (.cons (.tup (.cons (.var 0) (.cons (.var 2) (.cons (.var 4) .nil)))) (.cons (.var 4) .nil))) (.blt .int (.cons (.cmp .eq (.var 3) (.cst (.int 0))) .nil)))) .nil)))
theorem body_join : f352_L_joined.body = .cons (.ifs (.isN (.var 1)) (.cons (.ret (.cst .non)) .nil) .nil) (.cons (.asg (.name 2) (.cst .non)) (.cons (.fors (.name 3) (.range1 (.blt .len (.cons (.var 1) .nil))) joinBody) (.cons (.ret (.var 2)) .nil))) := rfl
/-- the word, the maker and the reader of parts -/
def wordOf (th : Bool) : List Nat := if th then sThen else sOr
def mkOf (th : Bool) : Re → Re → Re := if th then .thn else .or
def callee (th : Bool) : Nat := if th then 354 else 353
theorem mk_d (th : Bool) (a b : Re) : (mkOf th a b).d = .tup [.str (wordOf th), a.d, b.d] := by cases th <;> rfl
theorem isND_opt (o : Option Re) : isND (optD o) = o.isNone := by
  cases o with
  | none => rfl
  | some r => exact isND_re r
section
variable {S : Sto} {c : Nat → List D → Sto → Out D}
def turnR (th : Bool) (ps : List (List Nat)) (k : Nat) (fd : D) (S : Sto) (o : Option Re) : SO := match o with
  | none => .ret .non S
  | some q => .nx [some (.str (wordOf th)), some (.lst (txs ps)), some (if k = 0 then q.d else .tup [.str (wordOf th), fd, q.d]), some (.int k), some q.d] S
theorem join_turn (th : Bool) {ps : List (List Nat)} {k : Nat} {p : List Nat} (hp : ps[k]? = some p) {o : Option Re} (hc : c (callee th) [.str p] S = .ok (optD o) S) {fd : D} {o3 o4 : Option D} :
    forB (.name 3) (evSs c joinBody) (.int k) [some (.str (wordOf th)), some (.lst (txs ps)), some fd, o3, o4] S = turnR th ps k fd S o := by
  have hk : k < ps.length := (List.getElem?_eq_some_iff.mp hp).1
  have sub : subD (.lst (txs ps)) (.int (k : Nat)) S = .ok (.str p) S := by
    have q : ((k : Nat) : Int) < ((txs ps).length : Int) := by simp only [txs, List.length_map]; omega
    have g : (txs ps)[k]? = some (.str p) := by simp only [txs, List.getElem?_map, hp]; rfl
    simp only [subD, seqOf, items, placeOf, q, g, Int.natCast_nonneg, if_true, Int.toNat_natCast]
  have call1 : evS c (.ifs (.cmp .eq (.var 0) (.cst (.str [116, 104, 101, 110]))) (.cons (.asg (.name 4) (.call 354 (.cons (.sub (.var 1) (.var 3)) .nil))) .nil) (.cons (.asg (.name 4) (.call 353 (.cons (.sub (.var 1) (.var 3)) .nil))) .nil)) [some (.str (wordOf th)), some (.lst (txs ps)), some fd, some (.int k), o4] S = .nx [some (.str (wordOf th)), some (.lst (txs ps)), some fd, some (.int k), some (optD o)] S := by
    cases th with
    | true =>
      have hc : c 354 [.str p] S = .ok (optD o) S := hc
      have w : wordOf true = [116, 104, 101, 110] := rfl
      simp only [w, evS_ifs, ev_cmp, ev_var, getS_zero, getS_succ, ev_cst, Out.ok_bind, cmp_eq (eqD_str' _ _ _), decide_true, Out.so_ok, ifD_true, evSs_cons, evS_asg, ev_call, evs_cons, evs_nil, ev_sub, sub, hc, asg_name, setAt_succ, setAt_zero, thenS_nx, evSs_nil]
    | false =>
      have hc : c 353 [.str p] S = .ok (optD o) S := hc
      have w : wordOf false = [111, 114] := rfl
      simp only [w, evS_ifs, ev_cmp, ev_var, getS_zero, getS_succ, ev_cst, Out.ok_bind, cmp_eq (eqD_str' _ _ _), show decide (([111, 114] : List Nat) = [116, 104, 101, 110]) = false from rfl, Out.so_ok, ifD_false, evSs_cons, evS_asg, ev_call, evs_cons, evs_nil, ev_sub, sub, hc, asg_name, setAt_succ, setAt_zero, thenS_nx, evSs_nil]
  have b0 : forB (.name 3) (evSs c joinBody) (.int k) [some (.str (wordOf th)), some (.lst (txs ps)), some fd, o3, o4] S = evSs c joinBody [some (.str (wordOf th)), some (.lst (txs ps)), some fd, some (.int k), o4] S := rfl
  rw [b0]
  unfold turnR
  cases o with
  | none =>
    unfold joinBody
    rw [evSs_cons, call1]
    simp only [optD, thenS_nx, evSs_cons, evS_ifs, ev_isN, ev_var, getS_zero, getS_succ, Out.ok_bind, isND, Out.so_ok, ifD_true, evS_ret, ev_cst, thenS_ret]
  | some q =>
    unfold joinBody
    rw [evSs_cons, call1]
    have i0 := isND_re q
    have ln2 : ∀ x y : D, (List.length [x, y] ≤ sz) = True := fun _ _ => eq_true (by simp)
    have ln3 : ∀ x y z : D, (List.length [x, y, z] ≤ sz) = True := fun _ _ _ => eq_true (by simp)
    by_cases h0 : k = 0
    · subst h0
      have e0 : decide (((0 : Nat) : Int) = 0) = true := rfl
      simp only [optD, thenS_nx, evSs_cons, evS_ifs, ev_isN, ev_var, getS_zero, getS_succ, Out.ok_bind, i0, Out.so_ok, ifD_false, evSs_nil, evS_asg, ev_sub, ev_lst, evs_cons, evs_nil, ev_tup, ln2, ln3, if_true, ev_blt, ev_cmp, ev_cst, cmp_eq_int, e0, int_bl, pick1, asg_name, setAt_succ, setAt_zero]
    · have e0 : decide (((k : Nat) : Int) = 0) = false := by simpa using h0
      simp only [optD, thenS_nx, evSs_cons, evS_ifs, ev_isN, ev_var, getS_zero, getS_succ, Out.ok_bind, i0, Out.so_ok, ifD_false, evSs_nil, evS_asg, ev_sub, ev_lst, evs_cons, evs_nil, ev_tup, ln2, ln3, if_true, ev_blt, ev_cmp, ev_cst, cmp_eq_int, e0, int_bl, Bool.false_eq_true, if_false, pick0, asg_name, setAt_succ, setAt_zero, h0]
theorem join_loop (th : Bool) {ps : List (List Nat)} {f : List Nat → Option Re} (hc : ∀ p ∈ ps, c (callee th) [.str p] S = .ok (optD (f p)) S) : ∀ (qs pre : List (List Nat)) (r : Re) (o3 o4 : Option D), ps = pre ++ qs → pre ≠ [] →
    (joinL (mkOf th) f r qs = none ∧ forL [] (forB (.name 3) (evSs c joinBody)) (upFrom (pre.length : Int) qs.length) [some (.str (wordOf th)), some (.lst (txs ps)), some r.d, o3, o4] S = .ret .non S) ∨
    ∃ q o3' o4', joinL (mkOf th) f r qs = some q ∧ forL [] (forB (.name 3) (evSs c joinBody)) (upFrom (pre.length : Int) qs.length) [some (.str (wordOf th)), some (.lst (txs ps)), some r.d, o3, o4] S = .nx [some (.str (wordOf th)), some (.lst (txs ps)), some q.d, o3', o4'] S
  | [], pre, r, o3, o4, e, hne => by
    right
    refine ⟨r, o3, o4, rfl, ?_⟩
    show forL [] _ [] _ _ = _
    unfold forL
    rw [if_pos (chk_nil _)]
  | p :: qs, pre, r, o3, o4, e, hne => by
    have hp : ps[pre.length]? = some p := by rw [e]; simp
    have tn := join_turn (c := c) (S := S) th hp (hc p (by rw [e]; simp)) (fd := r.d) (o3 := o3) (o4 := o4)
    have up : upFrom (pre.length : Int) (p :: qs).length = .int (pre.length : Int) :: upFrom ((pre ++ [p]).length : Int) qs.length := by
      rw [List.length_cons, upFrom_succ]
      congr 2
      simp
    have k0 : pre.length ≠ 0 := fun z => hne (List.length_eq_zero_iff.mp z)
    rw [up]
    unfold joinL forL
    simp only [if_pos (chk_nil S)]
    rw [tn]
    cases e1 : f p with
    | none => exact .inl ⟨rfl, rfl⟩
    | some q =>
      dsimp only [turnR]
      rw [if_neg k0, ← mk_d]
      exact join_loop th hc qs (pre ++ [p]) (mkOf th r q) _ _ (by rw [e]; simp) (by simp)
end
theorem joined_val (P : PhiL Φ) (th : Bool) {o : Option (List (List Nat))} {f : List Nat → Option Re} {N : Nat} {S : Sto} (hz : ∀ ps, o = some ps → ps.length ≤ 20000) (hc : ∀ ps, o = some ps → ∀ p ∈ ps, callN Φ N (callee th) [.str p] S = .ok (optD (f p)) S) : callN Φ (N + 1) 352 [.str (wordOf th), cutD o] S = .ok (optD (joinR (mkOf th) f o)) S := by
  refine call_ret P.h352 ⟨rfl, by decide⟩ ?_
  rw [body_join]
  cases o with
  | none =>
    simp [cutD, joinR, optD, start, isND, f352_L_joined]
  | some ps =>
    have st : start f352_L_joined [.str (wordOf th), cutD (some ps)] = [some (.str (wordOf th)), some (.lst (txs ps)), none, none, none] := rfl
    rw [st]
    have i0 : isND (.lst (txs ps)) = false := rfl
    have hlen : ∀ Z, bltD .len [.lst (txs ps)] Z = .ok (.int (ps.length : Int)) Z := fun Z => by rw [len_lst]; simp [txs]
    have r1 : rng1D (.int (ps.length : Int)) S = .ok ⟨[], upFrom 0 ps.length⟩ S := by
      have := hz ps rfl
      have e : rangeD 0 (ps.length : Int) = some ⟨[], upFrom 0 ps.length⟩ := by
        unfold rangeD
        rw [if_pos (by omega)]
        simp
      simp [rng1D, e]
    have pre1 : evSs (callN Φ N) (.cons (.ifs (.isN (.var 1)) (.cons (.ret (.cst .non)) .nil) .nil) (.cons (.asg (.name 2) (.cst .non)) (.cons (.fors (.name 3) (.range1 (.blt .len (.cons (.var 1) .nil))) joinBody) (.cons (.ret (.var 2)) .nil)))) [some (.str (wordOf th)), some (.lst (txs ps)), none, none, none] S = thenS (evSs (callN Φ N) (.cons (.ret (.var 2)) .nil)) (forL [] (forB (.name 3) (evSs (callN Φ N) joinBody)) (upFrom 0 ps.length) [some (.str (wordOf th)), some (.lst (txs ps)), some .non, none, none] S) := by
      simp only [evSs_cons, evS_ifs, ev_isN, ev_var, getS_zero, getS_succ, Out.ok_bind, i0, Out.so_ok, ifD_false, evSs_nil, thenS_nx, evS_asg, ev_cst, asg_name, setAt_succ, setAt_zero, evS_fors, evi_r1, ev_blt, evs_cons, evs_nil, hlen, r1]
    rw [pre1]
    cases ps with
    | nil =>
      have : forL [] (forB (.name 3) (evSs (callN Φ N) joinBody)) (upFrom 0 0) [some (.str (wordOf th)), some (.lst (txs [])), some .non, none, none] S = .nx [some (.str (wordOf th)), some (.lst (txs [])), some .non, none, none] S := by
        show forL [] _ [] _ _ = _
        unfold forL
        rw [if_pos (chk_nil _)]
      rw [List.length_nil, this]
      simp [joinR, optD]
    | cons p qs =>
      have tn := join_turn (c := callN Φ N) (S := S) th (ps := p :: qs) (k := 0) rfl (hc _ rfl p List.mem_cons_self) (fd := .non) (o3 := none) (o4 := none)
      have up : upFrom 0 (p :: qs).length = .int ((0 : Nat) : Int) :: upFrom (([p] : List (List Nat)).length : Int) qs.length := by
        rw [List.length_cons, upFrom_succ]
        rfl
      rw [up]
      unfold forL
      rw [if_pos (chk_nil _), tn]
      unfold joinR
      dsimp only
      cases e1 : f p with
      | none => rfl
      | some r =>
        dsimp only [turnR]
        rw [if_pos rfl]
        rcases join_loop (c := callN Φ N) (S := S) th (hc _ rfl) qs [p] r (some (.int ((0 : Nat) : Int))) (some r.d) rfl (by simp) with ⟨j1, j2⟩ | ⟨q, o3', o4', j1, j2⟩
        · rw [j2, j1]
          rfl
        · rw [j2, j1]
          simp [optD]
/-! ### the parts of a text -/
/-- brackets count five, stars one -/
def w5 (c : Nat) : Nat := if c = 40 then 5 else if c = 42 then 1 else 0
theorem Tx.part {T : List Nat} (hT : Tx T) {p : List Nat} (hl : p.length ≤ T.length) (hs : ∀ c ∈ p, c ∈ T) : Tx p := ⟨Nat.le_trans hl hT.le, fun c hc => hT.lt c (hs c hc)⟩
theorem cut_mem (row : Bool) : ∀ (t : List Nat) (acc : List (List Nat)) (d : Nat) (cur : List Nat) (ps : List (List Nat)), cutL row acc d cur t = some ps → ∀ p ∈ ps, p ∈ acc ∨ ∀ c ∈ p, c ∈ cur ∨ c ∈ t
  | [], acc, d, cur, ps, h, p, hp => by
    unfold cutL at h
    split at h
    · cases h
      rcases List.mem_append.mp hp with hp | hp
      · exact .inl hp
      · rw [List.mem_singleton.mp hp]
        exact .inr fun c hc => .inl hc
    · cases h
  | ch :: t, acc, d, cur, ps, h, p, hp => by
    unfold cutL at h
    split at h
    · cases h
    · split at h
      · rcases cut_mem row t _ _ _ _ h p hp with q | q
        · rcases List.mem_append.mp q with q | q
          · exact .inl q
          · rw [List.mem_singleton.mp q]
            exact .inr fun c hc => .inl hc
        · exact .inr fun c hc => (q c hc).elim (fun z => by cases z) fun z => .inr (List.mem_cons_of_mem _ z)
      · split at h
        · rcases cut_mem row t _ _ _ _ h p hp with q | q
          · rcases List.mem_append.mp q with q | q
            · exact .inl q
            · rw [List.mem_singleton.mp q]
              refine .inr fun c hc => ?_
              rcases List.mem_append.mp hc with z | z
              · exact .inl z
              · rw [List.mem_singleton.mp z]; exact .inr List.mem_cons_self
          · exact .inr fun c hc => (q c hc).elim (fun z => by cases z) fun z => .inr (List.mem_cons_of_mem _ z)
        · rcases cut_mem row t _ _ _ _ h p hp with q | q
          · exact .inl q
          · refine .inr fun c hc => ?_
            rcases q c hc with z | z
            · rcases List.mem_append.mp z with z | z
              · exact .inl z
              · rw [List.mem_singleton.mp z]; exact .inr List.mem_cons_self
            · exact .inr (List.mem_cons_of_mem _ z)
theorem cut_tx {row : Bool} {T : List Nat} {ps : List (List Nat)} (hT : Tx T) (h : cutL row [] 0 [] T = some ps) {p : List Nat} (hp : p ∈ ps) : Tx p ∧ p.length ≤ T.length := by
  have l := cut_part (fun _ => 1) h hp
  rw [ws_one, ws_one] at l
  refine ⟨hT.part l fun c hc => ?_, l⟩
  rcases cut_mem row T [] 0 [] ps h p hp with q | q
  · cases q
  · rcases q c hc with z | z
    · cases z
    · exact z
theorem cut_count (row : Bool) : ∀ (t : List Nat) (acc : List (List Nat)) (d : Nat) (cur : List Nat) (ps : List (List Nat)), cutL row acc d cur t = some ps → ps.length ≤ acc.length + t.length + 1
  | [], acc, d, cur, ps, h => by
    unfold cutL at h
    split at h
    · cases h; simp
    · cases h
  | ch :: t, acc, d, cur, ps, h => by
    unfold cutL at h
    split at h
    · cases h
    · split at h
      · have := cut_count row t _ _ _ _ h
        simp at this ⊢; omega
      · split at h
        · have := cut_count row t _ _ _ _ h
          simp at this ⊢; omega
        · have := cut_count row t _ _ _ _ h
          simp at this ⊢; omega
theorem row_of_val (P : PhiL Φ) {T : List Nat} (hT : Tx T) {A : List Nat → Option Re} {N : Nat} {S : Sto} (hA : ∀ p, Tx p → p.length ≤ T.length → ws w5 p ≤ ws w5 T → callN Φ N 354 [.str p] S = .ok (optD (A p)) S) : callN Φ (N + 2) 353 [.str T] S = .ok (optD (rowF A T)) S := by
  refine call_ret P.h353 ⟨rfl, by decide⟩ ?_
  have c1 := cut_val P.h351 hT true (N := N) (S := S)
  have c1 : callN Φ (N + 1) 351 [.str T, .str []] S = .ok (cutD (cutL true [] 0 [] T)) S := c1
  have j1 := joined_val P true (o := cutL true [] 0 [] T) (f := A) (N := N) (S := S) (fun ps h => by have := cut_count true T _ _ _ _ h; have := hT.le; simp only [List.length_nil] at *; omega) fun ps h p hp => hA p (cut_tx hT h hp).1 (cut_tx hT h hp).2 (cut_part w5 h hp)
  have j1 : callN Φ (N + 1) 352 [.str [116, 104, 101, 110], cutD (cutL true [] 0 [] T)] S = .ok (optD (rowF A T)) S := j1
  simp [f353_L_row_of, start, c1, j1]
theorem whole_of_val (P : PhiL Φ) {T : List Nat} (hT : Tx T) {A : List Nat → Option Re} {N : Nat} {S : Sto} (hA : ∀ p, Tx p → p.length ≤ T.length → ws w5 p ≤ ws w5 T → callN Φ N 354 [.str p] S = .ok (optD (A p)) S) : callN Φ (N + 4) 355 [.str T] S = .ok (optD (wholeF A T)) S := by
  refine call_ret P.h355 ⟨rfl, by decide⟩ ?_
  have c1 : callN Φ (N + 3) 351 [.str T, .str [124]] S = .ok (cutD (cutL false [] 0 [] T)) S := cut_val P.h351 hT false (N := N + 2) (S := S)
  have j1 := joined_val P false (o := cutL false [] 0 [] T) (f := rowF A) (N := N + 2) (S := S) (fun ps h => by have := cut_count false T _ _ _ _ h; have := hT.le; simp only [List.length_nil] at *; omega) fun ps h p hp => by
    obtain ⟨t1, t2⟩ := cut_tx hT h hp
    exact row_of_val P t1 fun q q1 q2 q3 => hA q q1 (by omega) (Nat.le_trans q3 (cut_part w5 h hp))
  have j1 : callN Φ (N + 3) 352 [.str [111, 114], cutD (cutL false [] 0 [] T)] S = .ok (optD (wholeF A T)) S := j1
  simp [f355_L_whole_of, start, c1, j1]
/-! ### ends of a text -/
section
variable {T : List Nat} {S : Sto}
theorem slc_lo1 (hz : T.length ≤ sz) : slcD (.str T) (some 1) none S = .ok (.str (T.drop 1)) S := by
  unfold slcD
  dsimp only
  rw [if_pos hz]
  congr 2
  cases T with
  | nil => rfl
  | cons a t => exact cut_no (w := a :: t) (a := 1) (by simp)
theorem slc_last (hz : T.length ≤ sz) : slcD (.str T) (some (-1)) none S = .ok (.str (T.drop (T.length - 1))) S := by
  unfold slcD cut cutAt
  dsimp only
  rw [if_pos hz]
  have e1 : (-1 + (T.length : Int)).toNat = T.length - 1 := by omega
  simp only [show ((-1 : Int) < 0) from by decide, if_true, e1]
  rw [List.take_of_length_le (by rw [List.length_drop]; omega)]
theorem slc_init (hz : T.length ≤ sz) : slcD (.str T) none (some (-1)) S = .ok (.str T.dropLast) S := by
  unfold slcD cut cutAt
  dsimp only
  rw [if_pos hz]
  have e1 : (-1 + (T.length : Int)).toNat = T.length - 1 := by omega
  simp only [show ((-1 : Int) < 0) from by decide, if_true, e1, List.drop_zero, Nat.sub_zero]
  rw [List.dropLast_eq_take]
theorem slc_hi1 (hz : T.length ≤ sz) : slcD (.str T) none (some 1) S = .ok (.str (T.take 1)) S := by
  unfold slcD cut cutAt
  dsimp only
  rw [if_pos hz]
  simp only [show ¬ ((1 : Int) < 0) from by decide, if_false, List.drop_zero, Nat.sub_zero]
  congr 2
  cases T with
  | nil => rfl
  | cons a t => simp
theorem slc_mid (hz : T.length ≤ sz) : slcD (.str T) (some 1) (some (-1)) S = .ok (.str T.tail.dropLast) S := by
  unfold slcD cut cutAt
  dsimp only
  rw [if_pos hz]
  have e1 : (-1 + (T.length : Int)).toNat = T.length - 1 := by omega
  simp only [show ¬ ((1 : Int) < 0) from by decide, show ((-1 : Int) < 0) from by decide, if_true, if_false, e1]
  congr 2
  cases T with
  | nil => rfl
  | cons a t =>
    have e2 : min (1 : Int).toNat (a :: t).length = 1 := by simp
    rw [e2]
    simp only [List.length_cons, List.drop_succ_cons, List.drop_zero, List.tail_cons, Nat.add_sub_cancel]
    rw [List.dropLast_eq_take]
theorem last_eq (t : List Nat) (c : Nat) : decide (t.drop (t.length - 1) = [c]) = decide (t.getLast? = some c) := by
  apply decide_eq_decide.mpr
  by_cases h : t = []
  · subst h; simp
  · obtain ⟨u, a, rfl⟩ : ∃ u a, t = u ++ [a] := ⟨t.dropLast, t.getLast h, (List.dropLast_concat_getLast h).symm⟩
    rw [List.length_append, List.length_singleton, Nat.add_sub_cancel, List.drop_left, List.getLast?_concat]
    simp
theorem head_eq (t : List Nat) (c : Nat) : decide (t.take 1 = [c]) = decide (t.head? = some c) := by
  apply decide_eq_decide.mpr
  cases t <;> simp
end
theorem find01 {c : Nat} {r : Re} (h : leafR c = some r) (S : Sto) : ∃ i : Int, mthD .find (.str [48, 49]) [.str [c]] S = .ok (.int i) S ∧ subD (.lst [.tup [.str sNone], .tup [.str sEmpty], .tup [.str sSign, .str [c]]]) (.int (i % 3)) S = .ok r.d S := by
  refine ⟨_, rfl, ?_⟩
  have key : ∀ x ∈ [48, 49, 97, 98, 99, 100, 101, 102, 103, 104], Txt.find ⟨[48, 49].toArray⟩ ⟨[x].toArray⟩ % 3 = if x = 48 then 0 else if x = 49 then 1 else 2 := by decide +kernel
  unfold leafR at h
  split at h
  · rename_i q; subst q; cases h
    rw [key 48 (by decide)]
    rfl
  · split at h
    · rename_i q; subst q; cases h
      rw [key 49 (by decide)]
      rfl
    · split at h
      · rename_i n1 n2 n3; cases h
        rw [key c (by simp only [List.mem_cons, List.not_mem_nil, or_false] at n3 ⊢; omega), if_neg n1, if_neg n2]
        rfl
      · cases h
theorem leaf_mem (c : Nat) : (leafR c).isSome = decide (c ∈ [48, 49, 97, 98, 99, 100, 101, 102, 103, 104]) := by
  unfold leafR
  split
  · rename_i q; subst q; rfl
  · split
    · rename_i q; subst q; rfl
    · split
      · rename_i h
        simp only [List.mem_cons, List.not_mem_nil, or_false] at h ⊢
        simp only [Option.isSome_some, Bool.true_eq, decide_eq_true_eq]
        omega
      · rename_i h1 h2 h
        simp only [List.mem_cons, List.not_mem_nil, or_false] at h ⊢
        simp only [Option.isSome_none, Bool.false_eq, decide_eq_false_iff_not]
        omega
theorem atom_of_val (P : PhiL Φ) : ∀ (n N : Nat) (T : List Nat) (S : Sto), Tx T → T.length < n → ws w5 T + 1 ≤ N → callN Φ N 354 [.str T] S = .ok (optD (atomF n T)) S
  | 0, N, T, S, hT, hn, hN => by omega
  | n + 1, N, T, S, hT, hn, hN => by
    obtain ⟨M, rfl⟩ : ∃ M, N = M + 1 := ⟨N - 1, by omega⟩
    refine call_ret P.h354 ⟨rfl, by decide⟩ ?_
    have st : start f354_L_atom_of [.str T] = [some (.str T), none] := rfl
    rw [st]
    have hz : T.length ≤ sz := Nat.le_trans hT.le (by decide)
    have ng : ∀ Z, negD (.int 1) Z = .ok (.int (-1)) Z := fun _ => rfl
    have two : (!decide (T.drop 1 = [])) = decide (2 ≤ T.length) := by
      cases T with
      | nil => rfl
      | cons a t => cases t <;> simp
    unfold atomF
    by_cases c1 : 2 ≤ T.length ∧ T.getLast? = some 42
    · rw [if_pos c1]
      have e := last_split c1.2
      have hl : T.length = T.dropLast.length + 1 := by have := c1.1; rw [List.length_dropLast]; omega
      have hw : ws w5 T = ws w5 T.dropLast + 1 := by
        conv => lhs; rw [e]
        rw [ws_app, ws_cons, ws_nil]
        rfl
      have ih := atom_of_val P n M T.dropLast S (hT.part (by omega) fun c hc => List.dropLast_subset T hc) (by omega) (by omega)
      have l42 : decide (T.drop (T.length - 1) = [42]) = true := by rw [last_eq, c1.2]; rfl
      have t2 : (!decide (T.drop 1 = [])) = true := by rw [two]; exact decide_eq_true c1.1
      cases q : atomF n T.dropLast with
      | none =>
        rw [q] at ih
        simp only [optD] at ih
        simp only [f354_L_atom_of, evSs_cons, evS_ifs, ev_and, ev_cmp, ev_slc, ev_var, getS_zero, getS_succ, Out.ok_bind, evb_yes, evb_no, ev_cst, bnd_int, slc_lo1 hz, cmp_ne (eqD_str' _ _ S), t2, andD_true, ev_neg, ng, slc_last hz, cmp_eq (eqD_str' _ _ S), l42, Out.so_ok, ifD_true, evS_asg, ev_call, evs_cons, evs_nil, slc_init hz, ih, asg_name, setAt_succ, setAt_zero, thenS_nx, ev_isN, isND, evS_ret, thenS_ret, optD, Option.map_none]
      | some r =>
        rw [q] at ih
        simp only [optD] at ih
        have i0 := isND_re r
        have ln2 : ∀ x y : D, (List.length [x, y] ≤ sz) = True := fun _ _ => eq_true (by simp)
        simp only [f354_L_atom_of, evSs_cons, evS_ifs, ev_and, ev_cmp, ev_slc, ev_var, getS_zero, getS_succ, Out.ok_bind, evb_yes, evb_no, ev_cst, bnd_int, slc_lo1 hz, cmp_ne (eqD_str' _ _ S), t2, andD_true, ev_neg, ng, slc_last hz, cmp_eq (eqD_str' _ _ S), l42, Out.so_ok, ifD_true, evS_asg, ev_call, evs_cons, evs_nil, slc_init hz, ih, asg_name, setAt_succ, setAt_zero, thenS_nx, ev_isN, i0, ifD_false, evSs_nil, evS_ret, ev_tup, ln2, if_true, thenS_ret, optD, Option.map_some, Re.d]
    · rw [if_neg c1]
      have first : ∀ f : FS, f = [some (.str T), none] → evE (callN Φ M) (.and (.cmp .ne (.slc (.var 0) (.yes (.cst (.int 1))) .no) (.cst (.str []))) (.cmp .eq (.slc (.var 0) (.yes (.neg (.cst (.int 1)))) .no) (.cst (.str [42])))) f S = .ok (.bl false) S := by
        rintro f rfl
        have l42 : (decide (2 ≤ T.length) && decide (T.getLast? = some 42)) = false := by
          rw [← Bool.not_eq_true, Bool.and_eq_true]
          rintro ⟨h1, h2⟩
          exact c1 ⟨of_decide_eq_true h1, of_decide_eq_true h2⟩
        rw [← two, ← last_eq] at l42
        cases h1 : (!decide (T.drop 1 = [])) with
        | false => simp only [ev_and, ev_cmp, ev_slc, ev_var, getS_zero, Out.ok_bind, evb_yes, ev_cst, bnd_int, evb_no, slc_lo1 hz, cmp_ne (eqD_str' _ _ S), h1, andD_false]
        | true =>
          rw [h1, Bool.true_and] at l42
          simp only [ev_and, ev_cmp, ev_slc, ev_var, getS_zero, Out.ok_bind, evb_yes, ev_cst, bnd_int, evb_no, slc_lo1 hz, cmp_ne (eqD_str' _ _ S), h1, andD_true, ev_neg, ng, slc_last hz, cmp_eq (eqD_str' _ _ S), l42]
      have first := first _ rfl
      by_cases c2 : T.head? = some 40 ∧ T.getLast? = some 41
      · rw [if_pos c2]
        have e := ends_split c2.1 c2.2
        have hl : T.length = T.tail.dropLast.length + 2 := by conv => lhs; rw [e]
                                                              rw [par_len]
        have hw : ws w5 T = ws w5 T.tail.dropLast + 5 := by
          conv => lhs; rw [e]
          simp only [par, ws_cons, ws_app, ws_nil, show w5 40 = 5 from rfl, show w5 41 = 0 from rfl]
          omega
        obtain ⟨K, rfl⟩ : ∃ K, M = K + 4 := ⟨M - 4, by omega⟩
        have hT2 : Tx T.tail.dropLast := hT.part (by omega) fun c hc => List.mem_of_mem_tail (List.dropLast_subset _ hc)
        have wv := whole_of_val P hT2 (A := atomF n) (N := K) (S := S) fun p p1 p2 p3 => atom_of_val P n K p S p1 (by omega) (by omega)
        have h40 : decide (T.take 1 = [40]) = true := by rw [head_eq, c2.1]; rfl
        have h41 : decide (T.drop (T.length - 1) = [41]) = true := by rw [last_eq, c2.2]; rfl
        simp only [f354_L_atom_of, evSs_cons, evS_ifs, first, Out.so_ok, ifD_false, evSs_nil, thenS_nx, ev_and, ev_cmp, ev_slc, ev_var, getS_zero, Out.ok_bind, evb_yes, evb_no, ev_cst, bnd_int, slc_hi1 hz, cmp_eq (eqD_str' _ _ S), h40, andD_true, ev_neg, ng, slc_last hz, h41, ifD_true, evS_ret, ev_call, evs_cons, evs_nil, slc_mid hz, wv, thenS_ret]
      · rw [if_neg c2]
        have second : ∀ f : FS, f = [some (.str T), none] → evE (callN Φ M) (.and (.cmp .eq (.slc (.var 0) .no (.yes (.cst (.int 1)))) (.cst (.str [40]))) (.cmp .eq (.slc (.var 0) (.yes (.neg (.cst (.int 1)))) .no) (.cst (.str [41])))) f S = .ok (.bl false) S := by
          rintro f rfl
          have l42 : (decide (T.head? = some 40) && decide (T.getLast? = some 41)) = false := by
            rw [← Bool.not_eq_true, Bool.and_eq_true]
            rintro ⟨h1, h2⟩
            exact c2 ⟨of_decide_eq_true h1, of_decide_eq_true h2⟩
          rw [← head_eq, ← last_eq] at l42
          cases h1 : decide (T.take 1 = [40]) with
          | false => simp only [ev_and, ev_cmp, ev_slc, ev_var, getS_zero, Out.ok_bind, evb_yes, ev_cst, bnd_int, evb_no, slc_hi1 hz, cmp_eq (eqD_str' _ _ S), h1, andD_false]
          | true =>
            rw [h1, Bool.true_and] at l42
            simp only [ev_and, ev_cmp, ev_slc, ev_var, getS_zero, Out.ok_bind, evb_yes, ev_cst, bnd_int, evb_no, slc_hi1 hz, cmp_eq (eqD_str' _ _ S), h1, andD_true, ev_neg, ng, slc_last hz, l42]
        have second := second _ rfl
        match T, hz, first, second with
        | [], hz, first, second =>
          have ln : bltD .len [.str []] S = .ok (.int 0) S := rfl
          simp only [f354_L_atom_of, evSs_cons, evS_ifs, first, second, Out.so_ok, ifD_false, evSs_nil, thenS_nx, ev_or, ev_cmp, ev_blt, evs_cons, evs_nil, ev_var, getS_zero, Out.ok_bind, ln, ev_cst, cmp_ne_int, show (!decide ((0 : Int) = 1)) = true from rfl, orD_true, ifD_true, evS_ret, thenS_ret, optD]
        | [c], hz, first, second =>
          have ln : bltD .len [.str [c]] S = .ok (.int 1) S := rfl
          have nn : cmpD .notin (.str [c]) (.str [48, 49, 97, 98, 99, 100, 101, 102, 103, 104]) S = .ok (.bl (!decide (c ∈ [48, 49, 97, 98, 99, 100, 101, 102, 103, 104]))) S := cmp_notin (inD_sign _ _ _)
          rw [← leaf_mem] at nn
          cases e : leafR c with
          | none =>
            rw [e] at nn
            simp only [f354_L_atom_of, evSs_cons, evS_ifs, first, second, Out.so_ok, ifD_false, evSs_nil, thenS_nx, ev_or, ev_cmp, ev_blt, evs_cons, evs_nil, ev_var, getS_zero, Out.ok_bind, ln, ev_cst, cmp_ne_int, decide_true, Bool.not_true, orD_false, nn, Option.isSome_none, Bool.not_false, ifD_true, evS_ret, thenS_ret, optD, e]
          | some r =>
            rw [e] at nn
            obtain ⟨i, f1, f2⟩ := find01 e S
            have mx : ∀ f : FS, f = [some (.str [c]), none] → mthX .find (evEs (callN Φ M) (.cons (.var 0) .nil)) f (.str [48, 49]) S = .ok (.int i) S := by
              rintro f rfl
              unfold mthX
              rw [if_pos (by rfl)]
              simp only [evs_cons, ev_var, getS_zero, Out.ok_bind, evs_nil, f1]
            have ln1 : ∀ x : D, (List.length [x] ≤ sz) = True := fun _ => eq_true (by simp)
            have ln2 : ∀ x y : D, (List.length [x, y] ≤ sz) = True := fun _ _ => eq_true (by simp)
            have ln3 : ∀ x y z : D, (List.length [x, y, z] ≤ sz) = True := fun _ _ _ => eq_true (by simp)
            simp only [f354_L_atom_of, evSs_cons, evS_ifs, first, second, Out.so_ok, ifD_false, evSs_nil, thenS_nx, ev_or, ev_cmp, ev_blt, evs_cons, evs_nil, ev_var, getS_zero, Out.ok_bind, ln, ev_cst, cmp_ne_int, decide_true, Bool.not_true, orD_false, nn, Option.isSome_some, evS_ret, ev_sub, ev_lst, ev_tup, ln1, ln2, ln3, if_true, ev_bin, ev_mth, mx _ rfl, bin_mod (show (0 : Int) < 3 by decide), f2, thenS_ret, optD, e]
        | c :: d :: t, hz, first, second =>
          have ln : bltD .len [.str (c :: d :: t)] S = .ok (.int ((c :: d :: t).length : Int)) S := len_str _ hz S
          have n1 : (!decide (((c :: d :: t).length : Int) = 1)) = true := by simp; omega
          simp only [f354_L_atom_of, evSs_cons, evS_ifs, first, second, Out.so_ok, ifD_false, evSs_nil, thenS_nx, ev_or, ev_cmp, ev_blt, evs_cons, evs_nil, ev_var, getS_zero, Out.ok_bind, ln, ev_cst, cmp_ne_int, n1, orD_true, ifD_true, evS_ret, thenS_ret, optD]
end SL
set_option Elab.async false
set_option linter.all false
set_option maxRecDepth 100000
set_option maxHeartbeats 2000000
/-! F8: what is due, what is answered. -/
namespace SL
open PySem
variable {Φ : Nat → Option Def}
structure PhiA (Φ : Nat → Option Def) : Prop where
  p : PhiP Φ
  l : PhiL Φ
  h73 : Φ 73 = some f73_L_whole
  h216 : Φ 216 = some f216_L_kinds
  h217 : Φ 217 = some f217_L_word
/-! ### the kinds of an error -/
theorem isx {S X : Sto} {k : Nat} {c0 : Nat} {fs : List (Nat × D)} (h : S[k]? = some (.exc c0 fs)) (h0 : c0 < 15) {c : Nat} (hc : c < 15) : isiD [.own c] (.ref k) (S ++ X) = .ok (.bl (under c0 c)) (S ++ X) := by
  have lk : k < S.length := (List.getElem?_eq_some_iff.mp h).1
  have e : (S ++ X)[k]? = some (.exc c0 fs) := by rw [List.getElem?_append_left lk]; exact h
  refine isi_one' _ _ _ _ ?_
  unfold isTy
  simp only [e]
  rw [if_pos ⟨h0, hc⟩]
theorem isxv {S X : Sto} {k : Nat} {c0 : Nat} {fs : List (Nat × D)} (h : S[k]? = some (.exc c0 fs)) (h0 : c0 < 15) : isiD [.ve] (.ref k) (S ++ X) = .ok (.bl true) (S ++ X) := by
  have lk : k < S.length := (List.getElem?_eq_some_iff.mp h).1
  have e : (S ++ X)[k]? = some (.exc c0 fs) := by rw [List.getElem?_append_left lk]; exact h
  refine isi_one' _ _ _ _ ?_
  unfold isTy
  simp only [e]
  rw [if_pos h0]
theorem isn {S : Sto} {c : Nat} : isiD [.own c] .non S = .ok (.bl false) S := isi_one' _ _ _ _ rfl
theorem isnv {S : Sto} : isiD [.ve] .non S = .ok (.bl false) S := isi_one' _ _ _ _ rfl
theorem cat_last {S : Sto} {xs ys : List D} (h : xs.length + ys.length ≤ 1000) : catD (.ref S.length) (.lst ys) (S ++ [.lst xs]) = .ok (.ref (S ++ [Ob.lst xs]).length) ((S ++ [.lst xs]) ++ [.lst (xs ++ ys)]) := by
  have hz : xs.length + ys.length ≤ sz := Nat.le_trans h (by decide)
  unfold catD
  simp only [items, get_last]
  rw [if_pos hz]
theorem compL_filterC {ck : List (Nat × Ob)} {step : D → Sto → Out (Option D)} {p : D → Bool} {g : D → D} {S : Sto} (hk : Chk ck S) : ∀ {xs : List D}, (∀ d ∈ xs, step d S = .ok (if p d then some (g d) else none) S) → compL ck step xs S = .ok ((xs.filter p).map g) S
  | [], _ => by unfold compL; rw [if_pos hk]; rfl
  | d :: ds, h => by
    unfold compL
    rw [if_pos hk, h d List.mem_cons_self]
    dsimp only
    rw [compL_filterC hk fun e he => h e (List.mem_cons_of_mem _ he)]
    by_cases q : p d = true
    · simp [q]
    · simp [q]
def kWords : List (List Nat) := [[112, 97, 116, 116, 101, 114, 110], [119, 111, 114, 100], [108, 101, 110, 103, 116, 104], [116, 111, 108, 100], [115, 105, 103, 110, 115], [108, 105, 110, 101, 115], [108, 105, 110, 101], [110, 117, 109, 98, 101, 114], [117, 110, 108, 105, 107, 101], [114, 111, 119, 115], [109, 97, 110, 121], [111, 110, 101], [112, 97, 114, 116, 101, 100], [116, 101, 120, 116], [118, 97, 108, 117, 101], [101, 114, 114, 111, 114]]
/-- the words of the kinds that hold -/
def kindsOf (bs : List Bool) : List (List Nat) := ((kWords.zip bs).filter (·.2)).map (·.1)
@[simp] theorem evi_zip (c : Nat → List D → Sto → Out D) (a b : E) (f : FS) (S : Sto) : evIt c (.zip a b) f S = (evE c a f S).bind fun x S => (evE c b f S).bind fun y S => zipD x y S := by conv => lhs; unfold evIt
theorem kinds_gen (h216 : Φ 216 = some f216_L_kinds) {x : D} {S : Sto} {b : Nat → Bool} {bv : Bool} (h : ∀ X c, c < 15 → isiD [.own c] x (S ++ X) = .ok (.bl (b c)) (S ++ X)) (hv : ∀ X, isiD [.ve] x (S ++ X) = .ok (.bl bv) (S ++ X)) {N : Nat} :
    callN Φ (N + 1) 216 [x] S = .ok (.lst (txs (kindsOf [b 1, b 2, b 3, b 4, b 5, b 6, b 7, b 8, b 9, b 10, b 11, b 12, b 13, b 14, bv, b 0]))) S := by
  obtain ⟨bl3, hbl3⟩ : ∃ f : Nat → Nat → Nat → List D, f = fun i j k => [.bl (b i), .bl (b j), .bl (b k)] := ⟨_, rfl⟩
  obtain ⟨L1, e1⟩ : ∃ L, L = [D.bl (b 1), .bl (b 2), .bl (b 3)] := ⟨_, rfl⟩
  obtain ⟨L2, e2⟩ : ∃ L, L = L1 ++ [D.bl (b 4), .bl (b 5), .bl (b 6)] := ⟨_, rfl⟩
  obtain ⟨L3, e3⟩ : ∃ L, L = L2 ++ [D.bl (b 7), .bl (b 8), .bl (b 9)] := ⟨_, rfl⟩
  obtain ⟨L4, e4⟩ : ∃ L, L = L3 ++ [D.bl (b 10), .bl (b 11), .bl (b 12)] := ⟨_, rfl⟩
  obtain ⟨L5, e5⟩ : ∃ L, L = L4 ++ [D.bl (b 13), .bl (b 14), .bl bv] := ⟨_, rfl⟩
  obtain ⟨S1, s1⟩ : ∃ S', S' = S ++ [Ob.lst L1] := ⟨_, rfl⟩
  obtain ⟨S2, s2⟩ : ∃ S', S' = S1 ++ [Ob.lst L2] := ⟨_, rfl⟩
  obtain ⟨S3, s3⟩ : ∃ S', S' = S2 ++ [Ob.lst L3] := ⟨_, rfl⟩
  obtain ⟨S4, s4⟩ : ∃ S', S' = S3 ++ [Ob.lst L4] := ⟨_, rfl⟩
  have l1 : L1.length = 3 := by rw [e1]; rfl
  have l2 : L2.length = 6 := by rw [e2, List.length_append, l1]; rfl
  have l3 : L3.length = 9 := by rw [e3, List.length_append, l2]; rfl
  have l4 : L4.length = 12 := by rw [e4, List.length_append, l3]; rfl
  have l5 : L5.length = 15 := by rw [e5, List.length_append, l4]; rfl
  have c1 : catD (.ref S.length) (.lst [D.bl (b 4), .bl (b 5), .bl (b 6)]) S1 = .ok (.ref S1.length) (S1 ++ [.lst L2]) := by rw [s1, e2]; exact cat_last (by rw [l1]; simp)
  have c2 : catD (.ref S1.length) (.lst [D.bl (b 7), .bl (b 8), .bl (b 9)]) S2 = .ok (.ref S2.length) (S2 ++ [.lst L3]) := by rw [s2, e3]; exact cat_last (by rw [l2]; simp)
  have c3 : catD (.ref S2.length) (.lst [D.bl (b 10), .bl (b 11), .bl (b 12)]) S3 = .ok (.ref S3.length) (S3 ++ [.lst L4]) := by rw [s3, e4]; exact cat_last (by rw [l3]; simp)
  have c4 : catD (.ref S3.length) (.lst [D.bl (b 13), .bl (b 14), .bl bv]) S4 = .ok (.ref S4.length) (S4 ++ [.lst L5]) := by rw [s4, e5]; exact cat_last (by rw [l4]; simp)
  have i0 : ∀ c, c < 15 → isiD [.own c] x S = .ok (.bl (b c)) S := fun c hc => by have := h [] c hc; rwa [List.append_nil] at this
  have i1 : ∀ c, c < 15 → isiD [.own c] x S1 = .ok (.bl (b c)) S1 := fun c hc => by rw [s1]; exact h _ c hc
  have i2 : ∀ c, c < 15 → isiD [.own c] x S2 = .ok (.bl (b c)) S2 := fun c hc => by rw [s2, s1, List.append_assoc]; exact h _ c hc
  have i3 : ∀ c, c < 15 → isiD [.own c] x S3 = .ok (.bl (b c)) S3 := fun c hc => by rw [s3, s2, s1, List.append_assoc, List.append_assoc]; exact h _ c hc
  have i4 : ∀ c, c < 15 → isiD [.own c] x S4 = .ok (.bl (b c)) S4 := fun c hc => by rw [s4, s3, s2, s1, List.append_assoc, List.append_assoc, List.append_assoc]; exact h _ c hc
  have v4 : isiD [.ve] x S4 = .ok (.bl bv) S4 := by rw [s4, s3, s2, s1, List.append_assoc, List.append_assoc, List.append_assoc]; exact hv _
  have i5 : ∀ c, c < 15 → isiD [.own c] x (S4 ++ [.lst L5]) = .ok (.bl (b c)) (S4 ++ [.lst L5]) := fun c hc => by rw [s4, s3, s2, s1, List.append_assoc, List.append_assoc, List.append_assoc, List.append_assoc]; exact h _ c hc
  obtain ⟨S6, s6⟩ : ∃ S', S' = S4 ++ [Ob.lst (L5 ++ [D.bl (b 0)])] := ⟨_, rfl⟩
  have S6S : ∃ X, S6 = S ++ X := ⟨_, by rw [s6, s4, s3, s2, s1, List.append_assoc, List.append_assoc, List.append_assoc, List.append_assoc]⟩
  have apv := fun (f : FS) he => app_val (c := callN Φ N) (f := f) (e := .isi (.var 0) [.own 0]) (d := .bl (b 0)) (xs := L5) (S := S4) (he := he) (hl := by rw [l5]; decide)
  rw [← s6] at apv
  have Lall : L5 ++ [D.bl (b 0)] = [b 1, b 2, b 3, b 4, b 5, b 6, b 7, b 8, b 9, b 10, b 11, b 12, b 13, b 14, bv, b 0].map D.bl := by rw [e5, e4, e3, e2, e1]; rfl
  have g6 : S6[S4.length]? = some (.lst (L5 ++ [D.bl (b 0)])) := by rw [s6]; exact get_last _ _
  have zp : zipD (.lst (txs kWords)) (.ref S4.length) S6 = .ok ⟨[(S4.length, .lst (L5 ++ [D.bl (b 0)]))], ((txs kWords).zip (L5 ++ [D.bl (b 0)])).map fun p => .tup [p.1, p.2]⟩ S6 := by
    unfold zipD
    simp only [items, srcOf, g6, List.nil_append]
  have chk : Chk [(S4.length, Ob.lst (L5 ++ [D.bl (b 0)]))] S6 := fun p hp => by rw [List.mem_singleton.mp hp]; exact g6
  have ad : ∀ Z, binD .add (.lst (txs [[112, 97, 116, 116, 101, 114, 110], [119, 111, 114, 100], [108, 101, 110, 103, 116, 104], [116, 111, 108, 100], [115, 105, 103, 110, 115], [108, 105, 110, 101, 115], [108, 105, 110, 101], [110, 117, 109, 98, 101, 114], [117, 110, 108, 105, 107, 101], [114, 111, 119, 115], [109, 97, 110, 121], [111, 110, 101]])) (.lst (txs [[112, 97, 114, 116, 101, 100], [116, 101, 120, 116], [118, 97, 108, 117, 101], [101, 114, 114, 111, 114]])) Z = .ok (.lst (txs kWords)) Z := fun Z => rfl
  have cm : ∀ f : FS, f = [some x, some (.ref S4.length), some (.lst (txs kWords)), none, none] → compD (.tup [3, 4]) (evO (callN Φ N) (.yes (.var 4))) (evE (callN Φ N) (.var 3)) [3, 4] f ⟨[(S4.length, .lst (L5 ++ [D.bl (b 0)]))], ((txs kWords).zip (L5 ++ [D.bl (b 0)])).map fun p => .tup [p.1, p.2]⟩ S6 = .ok (.lst (txs (kindsOf [b 1, b 2, b 3, b 4, b 5, b 6, b 7, b 8, b 9, b 10, b 11, b 12, b 13, b 14, bv, b 0]))) S6 := by
    rintro f rfl
    unfold compD
    dsimp only
    rw [compL_filterC (p := fun d => match d with | .tup [_, .bl t] => t | _ => false) (g := fun d => match d with | .tup [y, _] => y | d => d) chk fun d hd => ?_]
    · dsimp only
      congr 2
      rw [Lall]
      unfold txs kindsOf
      rw [List.zip_map, List.map_map, List.filter_map, List.map_map, List.map_map]
      rfl
    · obtain ⟨q, hq, rfl⟩ := List.mem_map.mp hd
      obtain ⟨y, t⟩ := q
      have hb := (List.of_mem_zip hq).2
      rw [Lall] at hb
      obtain ⟨t', _, rfl⟩ := List.mem_map.mp hb
      exact step_yes (f' := [some x, some (.ref S4.length), some (.lst (txs kWords)), some y, some (.bl t')]) rfl (by simp) (fun _ => by simp)
  have st : start f216_L_kinds [x] = [some x, none, none, none, none] := rfl
  have ln3 : ∀ x y z : D, (List.length [x, y, z] ≤ sz) = True := fun _ _ _ => eq_true (by simp)
  have go : evSs (callN Φ N) f216_L_kinds.body (start f216_L_kinds [x]) S = .ret (.lst (txs (kindsOf [b 1, b 2, b 3, b 4, b 5, b 6, b 7, b 8, b 9, b 10, b 11, b 12, b 13, b 14, bv, b 0]))) S6 := by
    rw [st]
    have A1 : evS (callN Φ N) (.asg (.name 1) (.newL (.cons (.isi (.var 0) [(.own 1)]) (.cons (.isi (.var 0) [(.own 2)]) (.cons (.isi (.var 0) [(.own 3)]) .nil))))) [some x, none, none, none, none] S = .nx [some x, some (.ref S.length), none, none, none] S1 := by
      simp only [evS_asg, ev_new, ev_lst, evs_cons, ev_isi, ev_var, getS_zero, Out.ok_bind, i0 1 (by decide), i0 2 (by decide), i0 3 (by decide), evs_nil, ln3, if_true, newD, Out.so_ok, asg_name, setAt_succ, setAt_zero]
      rw [s1, e1]
    have A2 : evS (callN Φ N) (.asg (.name 1) (.newP (.var 1) (.lst (.cons (.isi (.var 0) [(.own 4)]) (.cons (.isi (.var 0) [(.own 5)]) (.cons (.isi (.var 0) [(.own 6)]) .nil)))))) [some x, some (.ref S.length), none, none, none] S1 = .nx [some x, some (.ref S1.length), none, none, none] S2 := by
      simp only [evS_asg, ev_newP, ev_lst, evs_cons, ev_isi, ev_var, getS_zero, getS_succ, Out.ok_bind, i1 4 (by decide), i1 5 (by decide), i1 6 (by decide), evs_nil, ln3, if_true, c1, Out.so_ok, asg_name, setAt_succ, setAt_zero, ← s2]
    have A3 : evS (callN Φ N) (.asg (.name 1) (.newP (.var 1) (.lst (.cons (.isi (.var 0) [(.own 7)]) (.cons (.isi (.var 0) [(.own 8)]) (.cons (.isi (.var 0) [(.own 9)]) .nil)))))) [some x, some (.ref S1.length), none, none, none] S2 = .nx [some x, some (.ref S2.length), none, none, none] S3 := by
      simp only [evS_asg, ev_newP, ev_lst, evs_cons, ev_isi, ev_var, getS_zero, getS_succ, Out.ok_bind, i2 7 (by decide), i2 8 (by decide), i2 9 (by decide), evs_nil, ln3, if_true, c2, Out.so_ok, asg_name, setAt_succ, setAt_zero, ← s3]
    have A4 : evS (callN Φ N) (.asg (.name 1) (.newP (.var 1) (.lst (.cons (.isi (.var 0) [(.own 10)]) (.cons (.isi (.var 0) [(.own 11)]) (.cons (.isi (.var 0) [(.own 12)]) .nil)))))) [some x, some (.ref S2.length), none, none, none] S3 = .nx [some x, some (.ref S3.length), none, none, none] S4 := by
      simp only [evS_asg, ev_newP, ev_lst, evs_cons, ev_isi, ev_var, getS_zero, getS_succ, Out.ok_bind, i3 10 (by decide), i3 11 (by decide), i3 12 (by decide), evs_nil, ln3, if_true, c3, Out.so_ok, asg_name, setAt_succ, setAt_zero, ← s4]
    have A5 : evS (callN Φ N) (.asg (.name 1) (.newP (.var 1) (.lst (.cons (.isi (.var 0) [(.own 13)]) (.cons (.isi (.var 0) [(.own 14)]) (.cons (.isi (.var 0) [.ve]) .nil)))))) [some x, some (.ref S3.length), none, none, none] S4 = .nx [some x, some (.ref S4.length), none, none, none] (S4 ++ [.lst L5]) := by
      simp only [evS_asg, ev_newP, ev_lst, evs_cons, ev_isi, ev_var, getS_zero, getS_succ, Out.ok_bind, i4 13 (by decide), i4 14 (by decide), v4, evs_nil, ln3, if_true, c4, Out.so_ok, asg_name, setAt_succ, setAt_zero]
    have A6 : evS (callN Φ N) (.exp (.mth .append (.var 1) (.cons (.isi (.var 0) [(.own 0)]) .nil))) [some x, some (.ref S4.length), none, none, none] (S4 ++ [.lst L5]) = .nx [some x, some (.ref S4.length), none, none, none] S6 := by
      have ap := apv [some x, some (.ref S4.length), none, none, none] (by simp only [ev_isi, ev_var, getS_zero, Out.ok_bind, i5 0 (by decide)])
      simp only [evS_exp, ev_mth, ev_var, getS_succ, getS_zero, Out.ok_bind, ap, Out.so_ok]
    have B1 : ∀ (f : FS) Z, evE (callN Φ N) (.lst (.cons (.cst (.str [112, 97, 116, 116, 101, 114, 110])) (.cons (.cst (.str [119, 111, 114, 100])) (.cons (.cst (.str [108, 101, 110, 103, 116, 104])) (.cons (.cst (.str [116, 111, 108, 100])) (.cons (.cst (.str [115, 105, 103, 110, 115])) (.cons (.cst (.str [108, 105, 110, 101, 115])) (.cons (.cst (.str [108, 105, 110, 101])) (.cons (.cst (.str [110, 117, 109, 98, 101, 114])) (.cons (.cst (.str [117, 110, 108, 105, 107, 101])) (.cons (.cst (.str [114, 111, 119, 115])) (.cons (.cst (.str [109, 97, 110, 121])) (.cons (.cst (.str [111, 110, 101])) .nil))))))))))))) f Z = .ok (.lst (txs [[112, 97, 116, 116, 101, 114, 110], [119, 111, 114, 100], [108, 101, 110, 103, 116, 104], [116, 111, 108, 100], [115, 105, 103, 110, 115], [108, 105, 110, 101, 115], [108, 105, 110, 101], [110, 117, 109, 98, 101, 114], [117, 110, 108, 105, 107, 101], [114, 111, 119, 115], [109, 97, 110, 121], [111, 110, 101]])) Z := fun f Z => by simp [txs]
    have B2 : ∀ (f : FS) Z, evE (callN Φ N) (.lst (.cons (.cst (.str [112, 97, 114, 116, 101, 100])) (.cons (.cst (.str [116, 101, 120, 116])) (.cons (.cst (.str [118, 97, 108, 117, 101])) (.cons (.cst (.str [101, 114, 114, 111, 114])) .nil))))) f Z = .ok (.lst (txs [[112, 97, 114, 116, 101, 100], [116, 101, 120, 116], [118, 97, 108, 117, 101], [101, 114, 114, 111, 114]])) Z := fun f Z => by simp [txs]
    unfold f216_L_kinds
    rw [evSs_cons, A1, thenS_nx, evSs_cons, A2, thenS_nx, evSs_cons, A3, thenS_nx, evSs_cons, A4, thenS_nx, evSs_cons, A5, thenS_nx, evSs_cons, A6, thenS_nx]
    simp only [evSs_cons, evS_asg, B1, Out.so_ok, asg_name, setAt_succ, setAt_zero, thenS_nx, ev_bin, ev_var, getS_succ, getS_zero, Out.ok_bind, B2, ad, evS_ret, ev_comp, evi_zip, zp, cm _ rfl, thenS_ret]
  have := call_ret' h216 (ds := [x]) ⟨rfl, by decide⟩ go
  rw [this]
  obtain ⟨X, hX⟩ := S6S
  rw [hX, gc_app (pure_txs _)]
theorem kinds14 (P : PhiA Φ) {S : Sto} {k : Nat} {fs : List (Nat × D)} (h : S[k]? = some (.exc 14 fs)) {N : Nat} : callN Φ (N + 1) 216 [.ref k] S = .ok (.lst (txs [[116, 101, 120, 116], [118, 97, 108, 117, 101], [101, 114, 114, 111, 114]])) S :=
  kinds_gen P.h216 (b := under 14) (bv := true) (fun X c hc => isx h (by decide) hc) (fun X => isxv h (by decide))
theorem word14 (P : PhiA Φ) {S : Sto} {k : Nat} {fs : List (Nat × D)} (h : S[k]? = some (.exc 14 fs)) {N : Nat} : callN Φ (N + 2) 217 [.ref k] S = .ok (.str [116, 101, 120, 116]) S := by
  have kk := kinds14 P h (N := N)
  refine call_ret P.h217 ⟨rfl, by decide⟩ ?_
  have d3 : Dt (.lst (txs [[116, 101, 120, 116], [118, 97, 108, 117, 101], [101, 114, 114, 111, 114]])) := ⟨by decide +kernel, by decide +kernel, by decide +kernel⟩
  have d2 : Dt (.lst [.str [118, 97, 108, 117, 101], .str [101, 114, 114, 111, 114]]) := ⟨by decide +kernel, by decide +kernel, by decide +kernel⟩
  have n0 := eq_nil d3 S
  have ne : cmpD .ne (.lst [.str [118, 97, 108, 117, 101], .str [101, 114, 114, 111, 114]]) (.lst [.str [118, 97, 108, 117, 101], .str [101, 114, 114, 111, 114]]) S = .ok (.bl false) S := by
    rw [cmp_ne (eqD_dt d2 d2 S)]
    have : PyData.eqv (toP (.lst [.str [118, 97, 108, 117, 101], .str [101, 114, 114, 111, 114]])) (toP (.lst [.str [118, 97, 108, 117, 101], .str [101, 114, 114, 111, 114]])) = true := by decide +kernel
    rw [this]
    rfl
  have s0 : subD (.lst (txs [[116, 101, 120, 116], [118, 97, 108, 117, 101], [101, 114, 114, 111, 114]])) (.int 0) S = .ok (.str [116, 101, 120, 116]) S := rfl
  have sl : slcD (.lst (txs [[116, 101, 120, 116], [118, 97, 108, 117, 101], [101, 114, 114, 111, 114]])) (some 1) none S = .ok (.lst [.str [118, 97, 108, 117, 101], .str [101, 114, 114, 111, 114]]) S := rfl
  have n0' : cmpD .eq (.lst (txs [[116, 101, 120, 116], [118, 97, 108, 117, 101], [101, 114, 114, 111, 114]])) (.lst []) S = .ok (.bl false) S := n0
  have ln2 : ∀ x y : D, (List.length [x, y] ≤ sz) = True := fun _ _ => eq_true (by simp)
  have st : start f217_L_word [.ref k] = [some (.ref k), none] := rfl
  rw [st]
  simp only [f217_L_word, evSs_cons, evS_asg, ev_call, evs_cons, evs_nil, ev_var, getS_zero, getS_succ, Out.ok_bind, kk, Out.so_ok, asg_name, setAt_succ, setAt_zero, thenS_nx, evS_ifs, ev_cmp, ev_lst, List.length_nil, Nat.zero_le, if_true, n0', ifD_false, evSs_nil, evS_ret, ev_sub, ev_cst, s0, ln2, ev_blt, ev_slc, evb_yes, evb_no, bnd_int, sl, ne, int_bl, Bool.false_eq_true, if_false, pick0, thenS_ret]
/-! ### what is due -/
theorem due_val (P : PhiA Φ) (h356 : Φ 356 = some f356_L_due) {T : List Nat} (hT : Tx T) (hl : ws wL T ≤ 64) {N : Nat} {S : Sto} (h1 : ws w5 T + 6 ≤ N) (h2 : 130 ≤ N) : callN Φ N 356 [.str T] S = .ok (optD (prd T)) S := by
  rw [← lrd_prd]
  obtain ⟨M, rfl⟩ : ∃ M, N = M + 4 + 1 := ⟨N - 5, by omega⟩
  refine call_ret h356 ⟨rfl, by decide⟩ ?_
  have wv := whole_of_val P.l hT (A := atomF (T.length + 1)) (N := M) (S := S) fun p p1 p2 p3 => atom_of_val P.l _ M p S p1 (by omega) (by omega)
  unfold lrd
  cases e : wholeF (atomF (T.length + 1)) T with
  | none =>
    rw [e] at wv
    simp only [optD] at wv
    simp [f356_L_due, start, wv, isND, optD]
  | some r =>
    rw [e] at wv
    simp only [optD] at wv
    obtain ⟨r1, r2⟩ := wholeF_ls (fun p _ q hq => atomF_ls _ p q hq) e
    have tx := L_text_val P.p.t r r1 (by omega) (M + 4) S (by have := r.ht_ls; omega)
    have i0 := isND_re r
    by_cases hw : wr r = T
    · simp [f356_L_due, start, wv, i0, tx, cmp_ne (eqD_str' _ _ S), hw, optD]
    · simp [f356_L_due, start, wv, i0, tx, cmp_ne (eqD_str' _ _ S), hw, optD]
/-! ### what is answered -/
@[simp] theorem ev_fld (c : Nat → List D → Sto → Out D) (n : Nat) (o : E) (f : FS) (S : Sto) : evE c (.fld n o) f S = (evE c o f S).bind fun x S => xfldD n x S := by conv => lhs; unfold evE
theorem answer_val (P : PhiA Φ) (h357 : Φ 357 = some f357_L_answer) {T : List Nat} (hT : Tx T) (hl : ws wL T ≤ 64) {N : Nat} {S : Sto} (h1 : 4 * ws wB T + 7 ≤ N) (h2 : 132 ≤ N) : callN Φ N 357 [.str T] S = .ok (match prd T with | none => .int 1 | some r => r.d) S := by
  obtain ⟨M, rfl⟩ : ∃ M, N = M + 2 + 1 := ⟨N - 3, by omega⟩
  have rp := read_pattern_val P.p hT hl (N := M + 2) (S := S) (by omega) (by omega)
  have st : start f357_L_answer [.str T] = [some (.str T), none, none, none] := rfl
  cases e : prd T with
  | none =>
    rw [e] at rp
    dsimp only at rp
    obtain ⟨S1, s1⟩ : ∃ S', S' = S ++ [Ob.exc 14 [(1, .int 1)]] := ⟨_, rfl⟩
    have g1 : S1[S.length]? = some (.exc 14 [(1, .int 1)]) := by rw [s1]; exact get_last _ _
    have w := word14 P g1 (N := M)
    have xf : xfldD 1 (.ref S.length) S1 = .ok (.int 1) S1 := by
      unfold xfldD
      simp only [g1]
      rw [if_pos ⟨by decide, fun p hp => by rw [List.mem_singleton.mp hp]; decide⟩]
      rfl
    have wh : callN Φ (M + 2) 73 [.int 1] S1 = .ok (.bl true) S1 := by
      refine call_ret P.h73 ⟨rfl, by decide⟩ ?_
      simp [f73_L_whole, start, isTy]
    have go : evSs (callN Φ (M + 2)) f357_L_answer.body (start f357_L_answer [.str T]) S = .ret (.int 1) S1 := by
      rw [st]
      have nd : isND (.ref S.length) = false := rfl
      have tr : tryD 0 3 1 (.exc 14 [(1, .int 1)] [some (.str T), some .non, some .non, none] S) = .nx [some (.str T), some (.ref S.length), some .non, none] S1 := by rw [s1]; rfl
      simp only [f357_L_answer, evSs_cons, evS_asg, ev_cst, Out.so_ok, asg_name, setAt_succ, setAt_zero, thenS_nx, evS_trys, ev_call, evs_cons, evs_nil, ev_var, getS_zero, getS_succ, Out.ok_bind, rp, Out.so_exc, thenS_exc, tr, evS_ifs, ev_isN, nd, ifD_false, evSs_nil, ev_or, ev_cmp, w, cmp_ne (eqD_str' _ _ S1), decide_true, Bool.not_true, orD_false, ev_not, ev_fld, xf, wh, notD_bl, evS_ret, thenS_ret]
    have := call_ret' h357 (ds := [.str T]) ⟨rfl, by decide⟩ go
    rw [this, s1, gc_app (d := .int 1) ⟨1, trivial⟩]
  | some r =>
    rw [e] at rp
    dsimp only at rp
    refine call_ret h357 ⟨rfl, by decide⟩ ?_
    rw [st]
    have tr : tryD 0 3 1 (.nx [some (.str T), some .non, some r.d, none] S) = .nx [some (.str T), some .non, some r.d, none] S := rfl
    simp only [f357_L_answer, evSs_cons, evS_asg, ev_cst, Out.so_ok, asg_name, setAt_succ, setAt_zero, thenS_nx, evS_trys, ev_call, evs_cons, evs_nil, ev_var, getS_zero, getS_succ, Out.ok_bind, rp, evSs_nil, tr, evS_ifs, ev_isN, isND, ifD_true, evS_ret, thenS_ret]
theorem wB_w5 : ∀ T : List Nat, 5 * ws wB T ≤ ws w5 T
  | [] => Nat.le_refl _
  | c :: T => by
    rw [ws_cons, ws_cons]
    have := wB_w5 T
    have : 5 * wB c ≤ w5 c := by
      unfold wB w5
      split <;> omega
    omega
theorem both_val (P : PhiA Φ) (h356 : Φ 356 = some f356_L_due) (h357 : Φ 357 = some f357_L_answer) (h358 : Φ 358 = some f358_L_both) {T : List Nat} (hT : Tx T) (hl : ws wL T ≤ 64) (h5 : ws w5 T ≤ 280) {N : Nat} {S : Sto} (hN : 300 ≤ N) : callN Φ N 358 [.str T] S = .ok (.bl true) S := by
  obtain ⟨M, rfl⟩ : ∃ M, N = M + 1 := ⟨N - 1, by omega⟩
  have hb := wB_w5 T
  have du := due_val P h356 hT hl (N := M) (S := S) (by omega) (by omega)
  have an := answer_val P h357 hT hl (N := M) (S := S) (by omega) (by omega)
  refine call_ret h358 ⟨rfl, by decide⟩ ?_
  have st : start f358_L_both [.str T] = [some (.str T), none] := rfl
  rw [st]
  cases e : prd T with
  | none =>
    rw [e] at du an
    simp only [optD] at du
    dsimp only at an
    simp only [f358_L_both, evSs_cons, evS_asg, ev_call, evs_cons, evs_nil, ev_var, getS_zero, getS_succ, Out.ok_bind, du, Out.so_ok, asg_name, setAt_succ, setAt_zero, thenS_nx, evS_ifs, ev_isN, isND, ifD_true, ev_cst, evSs_nil, evS_ret, ev_cmp, an, cmp_eq_int, decide_true, thenS_ret]
  | some r =>
    rw [e] at du an
    simp only [optD] at du
    dsimp only at an
    have hr := prd_some.mp e
    have dt : Dt r.d := re_dt hr.1 (by have := prd_ls e; have := r.ht_ls; omega)
    have cc := re_cmp dt dt S
    simp only [f358_L_both, evSs_cons, evS_asg, ev_call, evs_cons, evs_nil, ev_var, getS_zero, getS_succ, Out.ok_bind, du, Out.so_ok, asg_name, setAt_succ, setAt_zero, thenS_nx, evS_ifs, ev_isN, isND_re, ifD_false, evSs_nil, evS_ret, ev_cmp, an, cc, decide_true, thenS_ret]
end SL
set_option Elab.async false
set_option linter.all false
set_option maxRecDepth 100000
set_option maxHeartbeats 2000000
/-! F9: bent texts; law k60. -/
namespace SL
open PySem
variable {Φ : Nat → Option Def}
/-! ### a drawn pattern's text -/
theorem ls_pow : ∀ r : Re, r.ls ≤ 2 ^ (r.ht - 1)
  | .none => Nat.le_refl _
  | .empty => Nat.le_refl _
  | .sign _ => Nat.le_refl _
  | .or a b => by
    have := ls_pow a
    have := ls_pow b
    have ha := a.ht_pos
    have hb := b.ht_pos
    have e1 : 2 ^ (a.ht - 1) ≤ 2 ^ (max a.ht b.ht - 1) := Nat.pow_le_pow_right (by decide) (by omega)
    have e2 : 2 ^ (b.ht - 1) ≤ 2 ^ (max a.ht b.ht - 1) := Nat.pow_le_pow_right (by decide) (by omega)
    have e3 : 2 ^ (max a.ht b.ht) = 2 * 2 ^ (max a.ht b.ht - 1) := by
      obtain ⟨k, hk⟩ : ∃ k, max a.ht b.ht = k + 1 := ⟨max a.ht b.ht - 1, by omega⟩
      rw [hk, Nat.pow_succ]; simp; omega
    simp only [Re.ls, Re.ht, Nat.add_sub_cancel]
    omega
  | .thn a b => by
    have := ls_pow a
    have := ls_pow b
    have ha := a.ht_pos
    have hb := b.ht_pos
    have e1 : 2 ^ (a.ht - 1) ≤ 2 ^ (max a.ht b.ht - 1) := Nat.pow_le_pow_right (by decide) (by omega)
    have e2 : 2 ^ (b.ht - 1) ≤ 2 ^ (max a.ht b.ht - 1) := Nat.pow_le_pow_right (by decide) (by omega)
    have e3 : 2 ^ (max a.ht b.ht) = 2 * 2 ^ (max a.ht b.ht - 1) := by
      obtain ⟨k, hk⟩ : ∃ k, max a.ht b.ht = k + 1 := ⟨max a.ht b.ht - 1, by omega⟩
      rw [hk, Nat.pow_succ]; simp; omega
    simp only [Re.ls, Re.ht, Nat.add_sub_cancel]
    omega
  | .star a => by
    have := ls_pow a
    have ha := a.ht_pos
    have e3 : 2 ^ a.ht = 2 * 2 ^ (a.ht - 1) := by
      obtain ⟨k, hk⟩ : ∃ k, a.ht = k + 1 := ⟨a.ht - 1, by omega⟩
      rw [hk, Nat.pow_succ]; simp; omega
    have e4 : 1 ≤ 2 ^ (a.ht - 1) := Nat.one_le_two_pow
    simp only [Re.ls, Re.ht, Nat.add_sub_cancel]
    omega
theorem w5_par (x : List Nat) : ws w5 (par x) = ws w5 x + 5 := by
  simp only [par, ws_cons, ws_app, ws_nil, show w5 40 = 5 from rfl, show w5 41 = 0 from rfl]; omega
theorem w5_brO (r : Re) : ws w5 (wr r) ≤ ws w5 (brO r) ∧ ws w5 (brO r) ≤ ws w5 (brA r) := by
  unfold brO brA
  cases r.isOr <;> cases r.isThn <;> simp [w5_par]
theorem w5_brA : ∀ r : Re, r.ok → ws w5 (brA r) + 5 ≤ 5 * 2 ^ (r.ht - 1)
  | .none, _ => by decide
  | .empty, _ => by decide
  | .sign c, h => by
    obtain ⟨c1, _, _, c4, _, _⟩ := sig_ne h
    have : ws w5 (brA (.sign c)) = 0 := by simp [brA, Re.isOr, Re.isThn, wr, ws, w5, c1, c4]
    rw [this]
    simp [Re.ht]
  | .or a b, h => by
    have i1 := w5_brA a h.1
    have i2 := w5_brA b h.2
    have o1 := w5_brO a
    have o2 := w5_brO b
    have ha := a.ht_pos
    have hb := b.ht_pos
    have e1 : 2 ^ (a.ht - 1) ≤ 2 ^ (max a.ht b.ht - 1) := Nat.pow_le_pow_right (by decide) (by omega)
    have e2 : 2 ^ (b.ht - 1) ≤ 2 ^ (max a.ht b.ht - 1) := Nat.pow_le_pow_right (by decide) (by omega)
    have e3 : 2 ^ (max a.ht b.ht) = 2 * 2 ^ (max a.ht b.ht - 1) := by
      obtain ⟨k, hk⟩ : ∃ k, max a.ht b.ht = k + 1 := ⟨max a.ht b.ht - 1, by omega⟩
      rw [hk, Nat.pow_succ]; simp; omega
    have e : ws w5 (brA (.or a b)) = ws w5 (wr a) + ws w5 (brO b) + 5 := by
      show ws w5 (par (wr (.or a b))) = _
      rw [w5_par, wr_or, ws_app, ws_cons, show w5 124 = 0 from rfl]; omega
    rw [e]
    simp only [Re.ht, Nat.add_sub_cancel]
    omega
  | .thn a b, h => by
    have i1 := w5_brA a h.1
    have i2 := w5_brA b h.2
    have o1 := w5_brO a
    have ha := a.ht_pos
    have hb := b.ht_pos
    have e1 : 2 ^ (a.ht - 1) ≤ 2 ^ (max a.ht b.ht - 1) := Nat.pow_le_pow_right (by decide) (by omega)
    have e2 : 2 ^ (b.ht - 1) ≤ 2 ^ (max a.ht b.ht - 1) := Nat.pow_le_pow_right (by decide) (by omega)
    have e3 : 2 ^ (max a.ht b.ht) = 2 * 2 ^ (max a.ht b.ht - 1) := by
      obtain ⟨k, hk⟩ : ∃ k, max a.ht b.ht = k + 1 := ⟨max a.ht b.ht - 1, by omega⟩
      rw [hk, Nat.pow_succ]; simp; omega
    have e : ws w5 (brA (.thn a b)) = ws w5 (brO a) + ws w5 (brA b) + 5 := by
      show ws w5 (par (wr (.thn a b))) = _
      rw [w5_par, wr_thn, ws_app]
    rw [e]
    simp only [Re.ht, Nat.add_sub_cancel]
    omega
  | .star a, h => by
    have i1 := w5_brA a h
    have ha := a.ht_pos
    have e3 : 2 ^ a.ht = 2 * 2 ^ (a.ht - 1) := by
      obtain ⟨k, hk⟩ : ∃ k, a.ht = k + 1 := ⟨a.ht - 1, by omega⟩
      rw [hk, Nat.pow_succ]; simp; omega
    have e4 : 1 ≤ 2 ^ (a.ht - 1) := Nat.one_le_two_pow
    have e : ws w5 (brA (.star a)) = ws w5 (brA a) + 1 := by
      show ws w5 (brA a ++ [42]) = _
      rw [ws_app, ws_cons, ws_nil]
      rfl
    rw [e]
    simp only [Re.ht, Nat.add_sub_cancel]
    omega
theorem wr_w5 {r : Re} (h : r.ok) (h5 : r.ht ≤ 5) : ws w5 (wr r) ≤ 70 := by
  have hp : ∀ q : Re, q.ht ≤ 4 → 2 ^ (q.ht - 1) ≤ 8 := fun q hq => Nat.le_trans (Nat.pow_le_pow_right (by decide) (by omega : q.ht - 1 ≤ 3)) (by decide)
  cases r with
  | none => decide
  | empty => decide
  | sign c => have := w5_brA (.sign c) h; rw [show brA (.sign c) = wr (.sign c) from rfl] at this; simp [Re.ht] at this; omega
  | star a =>
    have ht : a.ht ≤ 4 := by simp only [Re.ht] at h5; omega
    have := w5_brA a h
    have := hp a ht
    rw [wr_star, ws_app, ws_cons, ws_nil, show w5 42 = 1 from rfl]
    omega
  | thn a b =>
    have ha : a.ht ≤ 4 := by simp only [Re.ht] at h5; omega
    have hb : b.ht ≤ 4 := by simp only [Re.ht] at h5; omega
    have := w5_brA a h.1
    have := w5_brA b h.2
    have := hp a ha
    have := hp b hb
    have := w5_brO a
    rw [wr_thn, ws_app]
    omega
  | or a b =>
    have ha : a.ht ≤ 4 := by simp only [Re.ht] at h5; omega
    have hb : b.ht ≤ 4 := by simp only [Re.ht] at h5; omega
    have := w5_brA a h.1
    have := w5_brA b h.2
    have := hp a ha
    have := hp b hb
    have := w5_brO a
    have := w5_brO b
    rw [wr_or, ws_app, ws_cons, show w5 124 = 0 from rfl]
    omega
theorem wr_wL : ∀ r : Re, r.ok → ws wL (wr r) = r.ls := by
  have hp : ∀ x : List Nat, ws wL (par x) = ws wL x := fun x => by simp only [par, ws_cons, ws_app, ws_nil, show wL 40 = 0 from rfl, show wL 41 = 0 from rfl]; omega
  have bA : ∀ r : Re, ws wL (brA r) = ws wL (wr r) := fun r => by unfold brA; split <;> simp [hp]
  have bO : ∀ r : Re, ws wL (brO r) = ws wL (wr r) := fun r => by unfold brO; split <;> simp [hp]
  intro r
  induction r with
  | none => intro; rfl
  | empty => intro; rfl
  | sign c => intro h; have h : c ∈ sigs := h; simp [wr, ws, wL, Re.ls, h]
  | star a ih => intro h; rw [wr_star, ws_app, bA, ih h]; rfl
  | thn a b iha ihb => intro h; rw [wr_thn, ws_app, bA, bO, iha h.1, ihb h.2]; rfl
  | or a b iha ihb => intro h; rw [wr_or, ws_app, ws_cons, bO, iha h.1, ihb h.2, show wL 124 = 0 from rfl, Nat.zero_add]; rfl
theorem wr_codes : ∀ r : Re, r.ok → ∀ c ∈ wr r, c < 1114112 := by
  have hp : ∀ x : List Nat, (∀ c ∈ x, c < 1114112) → ∀ c ∈ par x, c < 1114112 := fun x h c hc => by
    simp only [par, List.mem_cons, List.mem_append, List.not_mem_nil, or_false] at hc
    rcases hc with rfl | hc | rfl
    · decide
    · exact h c hc
    · decide
  intro r
  induction r with
  | none => intro _ c hc; simp [wr] at hc; omega
  | empty => intro _ c hc; simp [wr] at hc; omega
  | sign d => intro h c hc; have h : d ∈ sigs := h; simp [wr] at hc; subst hc; simp at h; omega
  | star a ih =>
    intro h c hc
    simp only [wr, List.mem_append, List.mem_singleton] at hc
    rcases hc with hc | rfl
    · split at hc
      · exact hp _ (ih h) c hc
      · exact ih h c hc
    · decide
  | thn a b iha ihb =>
    intro h c hc
    simp only [wr, List.mem_append] at hc
    rcases hc with hc | hc
    · split at hc
      · exact hp _ (iha h.1) c hc
      · exact iha h.1 c hc
    · split at hc
      · exact hp _ (ihb h.2) c hc
      · exact ihb h.2 c hc
  | or a b iha ihb =>
    intro h c hc
    rw [wr_or] at hc
    rcases List.mem_append.mp hc with hc | hc
    · exact iha h.1 c hc
    · rcases List.mem_cons.mp hc with rfl | hc
      · decide
      · unfold brO at hc
        split at hc
        · exact hp _ (ihb h.2) c hc
        · exact ihb h.2 c hc
/-! ### bent texts -/
def bSigns : List Nat := [48, 49, 97, 98, 40, 41, 124, 42, 32, 104, 10, 43, 105, 63, 65]
/-- how a text grows when it is bent -/
structure Bt (T T' : List Nat) : Prop where
  lt : ∀ c ∈ T', c ∈ T ∨ c < 1114112
  ws : ∀ (w : Nat → Nat) (m : Nat), (∀ c ∈ bSigns, w c ≤ m) → w 40 + w 41 ≤ m → ws w T' ≤ max (2 * ws w T) (ws w T + m)
theorem cut_pre {w : List Nat} {a : Nat} (ha : a ≤ w.length) : cut w none (some (a : Int)) = w.take a := by
  unfold cut cutAt
  have h1 : ¬ ((a : Int) < 0) := by omega
  have e1 : min (a : Int).toNat w.length = a := by omega
  simp only [if_neg h1, e1, List.drop_zero, Nat.sub_zero]
theorem cut_past {w : List Nat} {a : Nat} : cut w (some (a : Int)) none = w.drop a := by
  unfold cut cutAt
  have h1 : ¬ ((a : Int) < 0) := by omega
  simp only [if_neg h1]
  by_cases h : a ≤ w.length
  · have e1 : min (a : Int).toNat w.length = a := by omega
    rw [e1, List.take_of_length_le]
    rw [List.length_drop]
    omega
  · have e1 : min (a : Int).toNat w.length = w.length := by omega
    rw [e1, List.drop_eq_nil_of_le (by omega), List.drop_eq_nil_of_le (by omega)]
    simp
theorem ws_take_drop (w : Nat → Nat) (T : List Nat) (a : Nat) : ws w (T.take a) + ws w (T.drop a) = ws w T := by rw [← ws_app, List.take_append_drop]
theorem ws_drop_le (w : Nat → Nat) (T : List Nat) {a b : Nat} (h : a ≤ b) : ws w (T.drop b) ≤ ws w (T.drop a) := by
  refine suf_ws w ?_
  obtain ⟨k, rfl⟩ : ∃ k, b = a + k := ⟨b - a, by omega⟩
  rw [← List.drop_drop]
  exact List.drop_suffix _ _
theorem bent_ok' (D' : PhiD Φ) (h359 : Φ 359 = some f359_L_bent) {T : List Nat} (hT : T.length ≤ 5000) {N k : Nat} {S0 S : Sto} (e0 : Ef S0 S k) (hN : 2 ≤ N) : ∃ T' S', callN Φ N 359 [.ref k, .str T] S = .ok (.str T') S' ∧ Ef S0 S' k ∧ Bt T T' := by
  obtain ⟨M, rfl⟩ : ∃ M, N = M + 1 := ⟨N - 1, by omega⟩
  have hz : T.length ≤ sz := Nat.le_trans hT (by decide)
  obtain ⟨a, S1, t1, a0, a1, e1⟩ := take_ef D' (N := M) (m := (T.length : Int) + 1) e0 (by omega) (by omega) (by omega)
  obtain ⟨i, S2, t2, i0, i1, e2⟩ := take_ef D' (N := M) (m := 15) e1 (by omega) (by omega) (by omega)
  obtain ⟨w, S3, t3, w0, w1, e3⟩ := take_ef D' (N := M) (m := 5) e2 (by omega) (by omega) (by omega)
  obtain ⟨at_, rfl⟩ : ∃ n : Nat, a = (n : Int) := ⟨a.toNat, by omega⟩
  have hat : at_ ≤ T.length := by omega
  obtain ⟨j, rfl⟩ : ∃ n : Nat, i = (n : Int) := ⟨i.toNat, by omega⟩
  have hj : j < 15 := by omega
  obtain ⟨sg, hsg, ssub⟩ : ∃ sg ∈ bSigns, ∀ Z, subD (.str bSigns) (.int (j : Int)) Z = .ok (.str [sg]) Z := by
    refine ⟨bSigns[j]'(by simpa [bSigns] using hj), List.getElem_mem _, fun Z => ?_⟩
    have q : ((j : Nat) : Int) < (bSigns.length : Int) := by simp [bSigns]; omega
    have q2 : bSigns.length ≤ sz := by decide
    have q3 : bSigns[j]? = some (bSigns[j]'(by simpa [bSigns] using hj)) := List.getElem?_eq_getElem _
    unfold subD
    dsimp only
    rw [if_pos q2]
    unfold placeOf
    rw [if_pos (by omega), if_pos q]
    simp only [Int.toNat_natCast, q3]
  have sgl : sg < 1114112 := by
    have : ∀ c ∈ bSigns, c < 1114112 := by decide
    exact this sg hsg
  have s1 : ∀ Z, slcD (.str T) none (some (at_ : Int)) Z = .ok (.str (T.take at_)) Z := fun Z => by
    unfold slcD; dsimp only; rw [if_pos hz, cut_pre hat]
  have s2 : ∀ Z, slcD (.str T) (some (at_ : Int)) none Z = .ok (.str (T.drop at_)) Z := fun Z => by
    unfold slcD; dsimp only; rw [if_pos hz, cut_past]
  have s3 : ∀ Z, slcD (.str T) (some ((at_ : Int) + 1)) none Z = .ok (.str (T.drop (at_ + 1))) Z := fun Z => by
    unfold slcD; dsimp only; rw [if_pos hz, show ((at_ : Int) + 1) = ((at_ + 1 : Nat) : Int) by omega, cut_past]
  have lT : ∀ Z, bltD .len [.str T] Z = .ok (.int (T.length : Int)) Z := fun Z => len_str T hz Z
  have lS : ∀ Z, bltD .len [.str bSigns] Z = .ok (.int 15) Z := fun Z => rfl
  have lenT : (T.take at_).length ≤ 5000 := by rw [List.length_take]; omega
  have lenD : ∀ n, (T.drop n).length ≤ 5000 := fun n => by rw [List.length_drop]; omega
  have A : ∀ x y Z, x.length ≤ 40000 → y.length ≤ 40000 → binD .add (.str x) (.str y) Z = .ok (.str (x ++ y)) Z := fun x y Z h1 h2 => add_str (by omega) Z
  have st : start f359_L_bent [.ref k, .str T] = [some (.ref k), some (.str T), none, none, none, none, none, none] := rfl
  have mk : ∀ {o : List Nat} {S' : Sto}, Ef S0 S' k → evSs (callN Φ M) f359_L_bent.body (start f359_L_bent [.ref k, .str T]) S = .ret (.str o) S' → Bt T o → ∃ T' S', callN Φ (M + 1) 359 [.ref k, .str T] S = .ok (.str T') S' ∧ Ef S0 S' k ∧ Bt T T' := fun {o S'} ef go bt => by
    refine ⟨o, S', ?_, ef, bt⟩
    have := call_ret' h359 (ds := [.ref k, .str T]) ⟨rfl, by decide⟩ go
    rw [this, gc_len]
    rw [ef.len, e0.len]
  have tk : ∀ c ∈ T.take at_, c ∈ T := fun c hc => List.mem_of_mem_take hc
  have dk : ∀ n, ∀ c ∈ T.drop n, c ∈ T := fun n c hc => List.mem_of_mem_drop hc
  have head : evSs (callN Φ M) f359_L_bent.body (start f359_L_bent [.ref k, .str T]) S = evSs (callN Φ M) (.cons (.ifs (.cmp .eq (.var 5) (.cst (.int 0))) (.cons (.ret (.bin .add (.bin .add (.slc (.var 1) .no (.yes (.var 3))) (.var 4)) (.slc (.var 1) (.yes (.var 3)) .no))) .nil) .nil) (.cons (.ifs (.cmp .eq (.var 5) (.cst (.int 1))) (.cons (.ret (.bin .add (.slc (.var 1) .no (.yes (.var 3))) (.slc (.var 1) (.yes (.bin .add (.var 3) (.cst (.int 1)))) .no))) .nil) .nil) (.cons (.ifs (.cmp .eq (.var 5) (.cst (.int 2))) (.cons (.ret (.bin .add (.bin .add (.slc (.var 1) .no (.yes (.var 3))) (.var 4)) (.slc (.var 1) (.yes (.bin .add (.var 3) (.cst (.int 1)))) .no))) .nil) .nil) (.cons (.asg (.name 6) (.bin .add (.var 3) (.call 13 (.cons (.var 0) (.cons (.bin .add (.bin .sub (.blt .len (.cons (.var 1) .nil)) (.var 3)) (.cst (.int 1))) .nil))))) (.cons (.asg (.name 7) (.slc (.var 1) (.yes (.var 3)) (.yes (.var 6)))) (.cons (.ifs (.cmp .eq (.var 5) (.cst (.int 3))) (.cons (.asg (.name 7) (.bin .add (.bin .add (.cst (.str [40])) (.var 7)) (.cst (.str [41])))) .nil) (.cons (.asg (.name 7) (.bin .add (.var 7) (.var 7))) .nil)) (.cons (.ret (.bin .add (.bin .add (.slc (.var 1) .no (.yes (.var 3))) (.var 7)) (.slc (.var 1) (.yes (.var 6)) .no))) .nil))))))) [some (.ref k), some (.str T), some (.str bSigns), some (.int (at_ : Int)), some (.str [sg]), some (.int w), none, none] S3 := by
    rw [st]
    have bs : ([48, 49, 97, 98, 40, 41, 124, 42, 32, 104, 10, 43, 105, 63, 65] : List Nat) = bSigns := rfl
    unfold f359_L_bent
    rw [bs]
    simp only [evSs_cons, evS_asg, ev_cst, Out.so_ok, asg_name, setAt_succ, setAt_zero, thenS_nx, ev_call, evs_cons, evs_nil, ev_var, getS_zero, getS_succ, Out.ok_bind, ev_bin, ev_blt, lT, bin_add, t1, ev_sub, lS, t2, ssub, t3]
  by_cases h0 : w = 0
  · refine mk e3 (o := T.take at_ ++ [sg] ++ T.drop at_) ?_ ⟨fun c hc => ?_, fun v m hm _ => ?_⟩
    · rw [head]
      have d0 : decide (w = 0) = true := decide_eq_true h0
      simp only [evSs_cons, evS_ifs, ev_cmp, ev_var, getS_zero, getS_succ, ev_cst, Out.ok_bind, cmp_eq_int, d0, Out.so_ok, ifD_true, evS_ret, ev_bin, ev_slc, evb_no, evb_yes, bnd_int, s1, s2, A _ _ _ (show (T.take at_).length ≤ 40000 by omega) (show ([sg] : List Nat).length ≤ 40000 by simp), A _ _ _ (show (T.take at_ ++ [sg]).length ≤ 40000 by simp; omega) (show (T.drop at_).length ≤ 40000 by have := lenD at_; omega), thenS_ret]
    · rcases List.mem_append.mp hc with hc | hc
      · rcases List.mem_append.mp hc with hc | hc
        · exact .inl (tk c hc)
        · rw [List.mem_singleton.mp hc]; exact .inr sgl
      · exact .inl (dk _ c hc)
    · have := ws_take_drop v T at_
      have := hm sg hsg
      rw [ws_app, ws_app, ws_cons, ws_nil]
      omega
  · have d0 : decide (w = 0) = false := decide_eq_false h0
    by_cases h1 : w = 1
    · have d1 : decide (w = 1) = true := decide_eq_true h1
      refine mk e3 (o := T.take at_ ++ T.drop (at_ + 1)) ?_ ⟨fun c hc => ?_, fun v m hm _ => ?_⟩
      · rw [head]
        simp only [evSs_cons, evS_ifs, ev_cmp, ev_var, getS_zero, getS_succ, ev_cst, Out.ok_bind, cmp_eq_int, d0, d1, Out.so_ok, ifD_false, evSs_nil, thenS_nx, ifD_true, evS_ret, ev_bin, ev_slc, evb_no, evb_yes, bnd_int, bin_add, s1, s3, A _ _ _ (show (T.take at_).length ≤ 40000 by omega) (show (T.drop (at_ + 1)).length ≤ 40000 by have := lenD (at_ + 1); omega), thenS_ret]
      · rcases List.mem_append.mp hc with hc | hc
        · exact .inl (tk c hc)
        · exact .inl (dk _ c hc)
      · have := ws_take_drop v T at_
        have := ws_drop_le v T (show at_ ≤ at_ + 1 by omega)
        rw [ws_app]
        omega
    · have d1 : decide (w = 1) = false := decide_eq_false h1
      by_cases h2 : w = 2
      · have d2 : decide (w = 2) = true := decide_eq_true h2
        refine mk e3 (o := T.take at_ ++ [sg] ++ T.drop (at_ + 1)) ?_ ⟨fun c hc => ?_, fun v m hm _ => ?_⟩
        · rw [head]
          simp only [evSs_cons, evS_ifs, ev_cmp, ev_var, getS_zero, getS_succ, ev_cst, Out.ok_bind, cmp_eq_int, d0, d1, d2, Out.so_ok, ifD_false, evSs_nil, thenS_nx, ifD_true, evS_ret, ev_bin, ev_slc, evb_no, evb_yes, bnd_int, bin_add, s1, s3, A _ _ _ (show (T.take at_).length ≤ 40000 by omega) (show ([sg] : List Nat).length ≤ 40000 by simp), A _ _ _ (show (T.take at_ ++ [sg]).length ≤ 40000 by simp; omega) (show (T.drop (at_ + 1)).length ≤ 40000 by have := lenD (at_ + 1); omega), thenS_ret]
        · rcases List.mem_append.mp hc with hc | hc
          · rcases List.mem_append.mp hc with hc | hc
            · exact .inl (tk c hc)
            · rw [List.mem_singleton.mp hc]; exact .inr sgl
          · exact .inl (dk _ c hc)
        · have := ws_take_drop v T at_
          have := ws_drop_le v T (show at_ ≤ at_ + 1 by omega)
          have := hm sg hsg
          rw [ws_app, ws_app, ws_cons, ws_nil]
          omega
      · have d2 : decide (w = 2) = false := decide_eq_false h2
        obtain ⟨q, S4, t4, q0, q1, e4⟩ := take_ef D' (N := M) (m := (T.length : Int) - (at_ : Int) + 1) e3 (by omega) (by omega) (by omega)
        obtain ⟨en, hen⟩ : ∃ n : Nat, (at_ : Int) + q = (n : Int) := ⟨((at_ : Int) + q).toNat, by omega⟩
        have en1 : at_ ≤ en := by omega
        have en2 : en ≤ T.length := by omega
        obtain ⟨inn, hinn⟩ : ∃ x, x = (T.drop at_).take (en - at_) := ⟨_, rfl⟩
        have s5 : ∀ Z, slcD (.str T) (some (at_ : Int)) (some (en : Int)) Z = .ok (.str inn) Z := fun Z => by
          unfold slcD; dsimp only; rw [if_pos hz, cut_nn en1 en2, hinn]
        have s6 : ∀ Z, slcD (.str T) (some (en : Int)) none Z = .ok (.str (T.drop en)) Z := fun Z => by
          unfold slcD; dsimp only; rw [if_pos hz, cut_past]
        have li : inn.length ≤ 5000 := by rw [hinn, List.length_take, List.length_drop]; omega
        have im : ∀ c ∈ inn, c ∈ T := fun c hc => by rw [hinn] at hc; exact dk _ c (List.mem_of_mem_take hc)
        have wi : ∀ v, ws v (T.take at_) + ws v inn + ws v (T.drop en) = ws v T := fun v => by
          have h1 := ws_take_drop v T at_
          have h2 := ws_take_drop v (T.drop at_) (en - at_)
          rw [List.drop_drop, show at_ + (en - at_) = en by omega, ← hinn] at h2
          omega
        have tail : ∀ (inn' : List Nat), inn'.length ≤ 20000 → evSs (callN Φ M) (.cons (.ret (.bin .add (.bin .add (.slc (.var 1) .no (.yes (.var 3))) (.var 7)) (.slc (.var 1) (.yes (.var 6)) .no))) .nil) [some (.ref k), some (.str T), some (.str bSigns), some (.int (at_ : Int)), some (.str [sg]), some (.int w), some (.int (en : Int)), some (.str inn')] S4 = .ret (.str (T.take at_ ++ inn' ++ T.drop en)) S4 := fun inn' hl => by
          simp only [evSs_cons, evS_ret, ev_bin, ev_slc, ev_var, getS_zero, getS_succ, Out.ok_bind, evb_no, evb_yes, bnd_int, s1, s6, A _ _ _ (show (T.take at_).length ≤ 40000 by omega) (show inn'.length ≤ 40000 by omega), A _ _ _ (show (T.take at_ ++ inn').length ≤ 40000 by rw [List.length_append]; omega) (show (T.drop en).length ≤ 40000 by have := lenD en; omega), Out.so_ok, thenS_ret]
        have mid : evSs (callN Φ M) f359_L_bent.body (start f359_L_bent [.ref k, .str T]) S = evSs (callN Φ M) (.cons (.ifs (.cmp .eq (.var 5) (.cst (.int 3))) (.cons (.asg (.name 7) (.bin .add (.bin .add (.cst (.str [40])) (.var 7)) (.cst (.str [41])))) .nil) (.cons (.asg (.name 7) (.bin .add (.var 7) (.var 7))) .nil)) (.cons (.ret (.bin .add (.bin .add (.slc (.var 1) .no (.yes (.var 3))) (.var 7)) (.slc (.var 1) (.yes (.var 6)) .no))) .nil)) [some (.ref k), some (.str T), some (.str bSigns), some (.int (at_ : Int)), some (.str [sg]), some (.int w), some (.int (en : Int)), some (.str inn)] S4 := by
          rw [head]
          conv => lhs; simp only [evSs_cons, evS_ifs, ev_cmp, ev_var, getS_zero, getS_succ, ev_cst, Out.ok_bind, cmp_eq_int, d0, d1, d2, Out.so_ok, ifD_false, evSs_nil, thenS_nx, evS_asg, ev_bin, ev_call, evs_cons, evs_nil, ev_blt, lT, bin_sub, bin_add, t4, hen, asg_name, setAt_succ, setAt_zero, ev_slc, evb_yes, bnd_int, s5]
          conv => rhs; simp only [evSs_cons, evS_ifs, ev_cmp, ev_var, getS_zero, getS_succ, ev_cst, Out.ok_bind, cmp_eq_int, Out.so_ok, evSs_nil, evS_asg, ev_bin, ev_slc, evb_yes, bnd_int]
        by_cases h3 : w = 3
        · have d3 : decide (w = 3) = true := decide_eq_true h3
          have ab1 := A [40] inn S4 (by simp) (by omega)
          have ab2 := A ([40] ++ inn) [41] S4 (by simp; omega) (by simp)
          refine mk e4 (o := T.take at_ ++ ([40] ++ inn ++ [41]) ++ T.drop en) ?_ ⟨fun c hc => ?_, fun v m hm h41 => ?_⟩
          · rw [mid, evSs_cons]
            have : evS (callN Φ M) (.ifs (.cmp .eq (.var 5) (.cst (.int 3))) (.cons (.asg (.name 7) (.bin .add (.bin .add (.cst (.str [40])) (.var 7)) (.cst (.str [41])))) .nil) (.cons (.asg (.name 7) (.bin .add (.var 7) (.var 7))) .nil)) [some (.ref k), some (.str T), some (.str bSigns), some (.int (at_ : Int)), some (.str [sg]), some (.int w), some (.int (en : Int)), some (.str inn)] S4 = .nx [some (.ref k), some (.str T), some (.str bSigns), some (.int (at_ : Int)), some (.str [sg]), some (.int w), some (.int (en : Int)), some (.str ([40] ++ inn ++ [41]))] S4 := by
              simp only [evS_ifs, ev_cmp, ev_var, getS_zero, getS_succ, ev_cst, Out.ok_bind, cmp_eq_int, d3, Out.so_ok, ifD_true, evSs_cons, evS_asg, ev_bin, ab1, ab2, asg_name, setAt_succ, setAt_zero, thenS_nx, evSs_nil]
            rw [this, thenS_nx, tail _ (by simp; omega)]
          · rcases List.mem_append.mp hc with hc | hc
            · rcases List.mem_append.mp hc with hc | hc
              · exact .inl (tk c hc)
              · rcases List.mem_append.mp hc with hc | hc
                · rcases List.mem_append.mp hc with hc | hc
                  · rw [List.mem_singleton.mp hc]; exact .inr (by decide)
                  · exact .inl (im c hc)
                · rw [List.mem_singleton.mp hc]; exact .inr (by decide)
            · exact .inl (dk _ c hc)
          · have := wi v
            simp only [ws_app, ws_cons, ws_nil]
            omega
        · have d3 : decide (w = 3) = false := decide_eq_false h3
          have ab1 := A inn inn S4 (by omega) (by omega)
          refine mk e4 (o := T.take at_ ++ (inn ++ inn) ++ T.drop en) ?_ ⟨fun c hc => ?_, fun v m hm _ => ?_⟩
          · rw [mid, evSs_cons]
            have : evS (callN Φ M) (.ifs (.cmp .eq (.var 5) (.cst (.int 3))) (.cons (.asg (.name 7) (.bin .add (.bin .add (.cst (.str [40])) (.var 7)) (.cst (.str [41])))) .nil) (.cons (.asg (.name 7) (.bin .add (.var 7) (.var 7))) .nil)) [some (.ref k), some (.str T), some (.str bSigns), some (.int (at_ : Int)), some (.str [sg]), some (.int w), some (.int (en : Int)), some (.str inn)] S4 = .nx [some (.ref k), some (.str T), some (.str bSigns), some (.int (at_ : Int)), some (.str [sg]), some (.int w), some (.int (en : Int)), some (.str (inn ++ inn))] S4 := by
              simp only [evS_ifs, ev_cmp, ev_var, getS_zero, getS_succ, ev_cst, Out.ok_bind, cmp_eq_int, d3, Out.so_ok, ifD_false, evSs_cons, evS_asg, ev_bin, ab1, asg_name, setAt_succ, setAt_zero, thenS_nx, evSs_nil]
            rw [this, thenS_nx, tail _ (by simp; omega)]
          · rcases List.mem_append.mp hc with hc | hc
            · rcases List.mem_append.mp hc with hc | hc
              · exact .inl (tk c hc)
              · exact .inl (im c ((List.mem_append.mp hc).elim id id))
            · exact .inl (dk _ c hc)
          · have := wi v
            simp only [ws_app]
            omega
end SL
set_option Elab.async false
set_option linter.all false
set_option maxRecDepth 100000
set_option maxHeartbeats 2000000
/-! F10: law k60. -/
namespace SL
open PySem
variable {Φ : Nat → Option Def}
structure Phi60 (Φ : Nat → Option Def) : Prop where
  d : PhiD Φ
  a : PhiA Φ
  p2 : Phi2 Φ
  h3 : Φ 3 = some f3_look_at_pattern
  h17 : Φ 17 = some f17_L_drawn
  h342 : Φ 342 = some f342_pattern_text
  h356 : Φ 356 = some f356_L_due
  h357 : Φ 357 = some f357_L_answer
  h358 : Φ 358 = some f358_L_both
  h359 : Φ 359 = some f359_L_bent
  h0 : Φ 0 = some f0_k60
theorem Sm.strv {m : Nat} {ds : List D} (h : Sm m (.tup ds)) (S : Sto) : bltD .str [.tup ds] S = .ok (.str (toP (.tup ds)).shown.cps.toList) S := h.repr S
theorem look_yes' (P : Phi2 Φ) (h3 : Φ 3 = some f3_look_at_pattern) {m n : Nat} {d : D} (h : Sm m d) (hp : isP d = true) (S : Sto) : callN Φ (n + m + 3) 3 [d] S = .ok .non S := by
  rw [call_of h3 (n + m + 2) _ S ⟨rfl, by decide⟩]
  have r := right_pattern P m d h.dt h.dep (Nat.le_trans h.wt (by decide)) n S
  show endD S (evSs (callN Φ (n + m + 2)) f3_look_at_pattern.body [some d] S) = _
  have go : evSs (callN Φ (n + m + 2)) f3_look_at_pattern.body [some d] S = .nx [some d] S := by simp [f3_look_at_pattern, r, hp]
  rw [go]
  simp [gc_self]
theorem pattern_text_val (P : PhiT Φ) (P2 : Phi2 Φ) (h3 : Φ 3 = some f3_look_at_pattern) (h342 : Φ 342 = some f342_pattern_text) {r : Re} (hr : r.ok) (sm : Sm 8 r.d) (hp : isP r.d = true) (hl : r.ls ≤ 64) {N : Nat} {S : Sto} (hN : 150 ≤ N) : callN Φ N 342 [r.d] S = .ok (.str (wr r)) S := by
  obtain ⟨M, rfl⟩ : ∃ M, N = M + 8 + 3 + 1 := ⟨N - 12, by omega⟩
  refine call_ret h342 ⟨rfl, by decide⟩ ?_
  have l := look_yes' P2 h3 (n := M) sm hp S
  have w := written_val P r hr hl (M + 8 + 3) S (by have := r.ht_ls; omega)
  simp [f342_pattern_text, start, l, w]
/-- a text that may be asked for -/
structure Ask (T : List Nat) : Prop where
  tx : Tx T
  l : ws wL T ≤ 64
  b : ws w5 T ≤ 280
theorem bt_ask {T T' : List Nat} {a b : Nat} (h : Bt T T') (hc : ∀ c ∈ T, c < 1114112) (hl : T.length ≤ 2000) (h1 : ws wL T ≤ a) (h2 : ws w5 T ≤ b) (ha : 1 ≤ a) (hb : 5 ≤ b) : (∀ c ∈ T', c < 1114112) ∧ T'.length ≤ 2 * T.length + 2 ∧ ws wL T' ≤ 2 * a ∧ ws w5 T' ≤ 2 * b := by
  refine ⟨fun c hc' => (h.lt c hc').elim (hc c) id, ?_, ?_, ?_⟩
  · have := h.ws (fun _ => 1) 2 (fun _ _ => by omega) (by omega)
    rw [ws_one, ws_one] at this
    omega
  · have := h.ws wL 1 (by decide) (by decide)
    omega
  · have := h.ws w5 5 (by decide) (by decide)
    omega
def bodyTurn : Ss := (.cons (.asg (.name 9) (.call 359 (.cons (.var 3) (.cons (.var 7) .nil)))) (.cons (.ifs (.cmp .gt (.var 8) (.cst (.int 5))) (.cons (.asg (.name 9) (.call 359 (.cons (.var 3) (.cons (.var 9) .nil)))) .nil) .nil) (.cons (.ifs (.not (.call 358 (.cons (.var 9) .nil))) (.cons (.ret (.cst (.bl false))) .nil) .nil) .nil)))
def bodyK60 : Ss := (.cons (.asg (.name 3) (.call 12 (.cons (.var 0) (.cons (.var 1) .nil)))) (.cons (.asg (.name 4) (.call 14 (.cons (.var 3) .nil))) (.cons (.asg (.name 5) (.call 17 (.cons (.var 3) (.cons (.var 4) (.cons (.cst (.int 8)) .nil))))) (.cons (.asg (.name 6) (.blt .str (.cons (.var 5) .nil))) (.cons (.asg (.name 7) (.call 349 (.cons (.var 5) .nil))) (.cons (.ifs (.or (.cmp .ne (.call 342 (.cons (.var 5) .nil)) (.var 7)) (.cmp .ne (.blt .str (.cons (.var 5) .nil)) (.var 6))) (.cons (.ret (.cst (.bl false))) .nil) .nil) (.cons (.ifs (.cmp .ne (.call 348 (.cons (.var 7) .nil)) (.var 5)) (.cons (.ret (.cst (.bl false))) .nil) .nil) (.cons (.fors (.name 8) (.range1 (.cst (.int 8))) bodyTurn) .nil))))))))
theorem turn60 (P : Phi60 Φ) {N k : Nat} (hN : 310 ≤ N) {r : Re} (hr : r.ok) (h5 : r.ht ≤ 5) {S0 S : Sto} (e0 : Ef S0 S k) {t : Int} {a b c e g i o8 o9 : Option D} : ∃ S' o9', forB (.name 8) (evSs (callN Φ N) bodyTurn) (.int t) [a, b, c, some (.ref k), e, g, i, some (.str (wr r)), o8, o9] S = .nx [a, b, c, some (.ref k), e, g, i, some (.str (wr r)), some (.int t), o9'] S' ∧ Ef S0 S' k := by
  have hls : r.ls ≤ 16 := Nat.le_trans (ls_pow r) (Nat.le_trans (Nat.pow_le_pow_right (by decide) (by omega : r.ht - 1 ≤ 4)) (by decide))
  have hlen := wr_len r
  have hL := wr_wL r hr
  have h70 := wr_w5 hr h5
  obtain ⟨T1, S1, c1, e1, b1⟩ := bent_ok' P.d P.h359 (T := wr r) (by omega) (N := N) e0 (by omega)
  obtain ⟨q1, q2, q3, q4⟩ := bt_ask b1 (wr_codes r hr) (by omega) (show ws wL (wr r) ≤ 16 by omega) h70 (by omega) (by omega)
  by_cases ht : 5 < t
  · have dt : decide (5 < t) = true := decide_eq_true ht
    obtain ⟨T2, S2, c2, e2, b2⟩ := bent_ok' P.d P.h359 (T := T1) (by omega) (N := N) e1 (by omega)
    obtain ⟨u1, u2, u3, u4⟩ := bt_ask b2 q1 (by omega) q3 q4 (by omega) (by omega)
    have bv := both_val P.a P.h356 P.h357 P.h358 (T := T2) ⟨by omega, u1⟩ (by omega) (by omega) (N := N) (S := S2) (by omega)
    refine ⟨S2, some (.str T2), ?_, e2⟩
    simp only [forB, bind_name, setAt_succ, setAt_zero, bodyTurn, evSs_cons, evS_asg, ev_call, evs_cons, evs_nil, ev_var, getS_zero, getS_succ, Out.ok_bind, c1, Out.so_ok, asg_name, thenS_nx, evS_ifs, ev_cmp, ev_cst, cmp_gt_int, dt, ifD_true, c2, evSs_nil, ev_not, bv, notD_bl, Bool.not_true, ifD_false]
  · have dt : decide (5 < t) = false := decide_eq_false ht
    have bv := both_val P.a P.h356 P.h357 P.h358 (T := T1) ⟨by omega, q1⟩ (by omega) (by omega) (N := N) (S := S1) (by omega)
    refine ⟨S1, some (.str T1), ?_, e1⟩
    simp only [forB, bind_name, setAt_succ, setAt_zero, bodyTurn, evSs_cons, evS_asg, ev_call, evs_cons, evs_nil, ev_var, getS_zero, getS_succ, Out.ok_bind, c1, Out.so_ok, asg_name, thenS_nx, evS_ifs, ev_cmp, ev_cst, cmp_gt_int, dt, ifD_false, evSs_nil, ev_not, bv, notD_bl, Bool.not_true]
theorem k60_turn (P : Phi60 Φ) {N : Nat} (hN : 320 ≤ N) {ns : List Int} {k : Nat} {b c d e g i j l m : Option D} {S : Sto} : ∃ d' e' g' i' j' l' m' S', forB (.name 1) (evSs (callN Φ N) bodyK60) (.int k) [some (.scr ns), b, c, d, e, g, i, j, l, m] S = .nx [some (.scr ns), some (.int k), c, d', e', g', i', j', l', m'] S' := by
  obtain ⟨n2, hn2⟩ : ∃ n, N = n + 2 := ⟨N - 2, by omega⟩
  obtain ⟨p, c1⟩ := pile_ok P.d (n := n2) (ns := ns) (k := k) (S := S)
  rw [← hn2] at c1
  have hp : (S ++ [Ob.lst [.int p]])[S.length]? = some (.lst [.int p]) := by simp
  obtain ⟨L, S2, c2, hL, e2⟩ := letters_gen P.d (N := N) hp (by omega)
  obtain ⟨p2, hp2⟩ := e2.pile
  obtain ⟨x, S3, c3, hx, p3, hp3⟩ := drawn_gen P.d P.h17 (N := N) (most := 8) hp2 hL (by decide) (by omega)
  have c3 : callN Φ N 17 [.ref S.length, .str L, .int 8] S2 = .ok x S3 := c3
  obtain ⟨r, rfl, hr⟩ := isP_re 64 x (by have := hx.dep; omega) hx.p
  have h5 : r.ht ≤ 5 := by rw [← Re.depth_eq]; exact hx.dep
  have hls : r.ls ≤ 16 := Nat.le_trans (ls_pow r) (Nat.le_trans (Nat.pow_le_pow_right (by decide) (by omega : r.ht - 1 ≤ 4)) (by decide))
  have sm := hx.sm
  obtain ⟨sh, strv⟩ : ∃ sh, ∀ Z, bltD .str [r.d] Z = .ok (.str sh) Z := by
    refine ⟨(toP r.d).shown.cps.toList, fun Z => ?_⟩
    have := sm.repr Z
    cases r <;> exact this
  have lt := L_text_val P.a.p.t r hr (by omega) N S3 (by omega)
  have pt := pattern_text_val P.a.p.t P.p2 P.h3 P.h342 hr sm hx.p (by omega) (N := N) (S := S3) (by omega)
  have hlen := wr_len r
  have tx : Tx (wr r) := ⟨by omega, wr_codes r hr⟩
  have hwL := wr_wL r hr
  have rp := read_pattern_val P.a.p tx (by omega) (N := N) (S := S3) (by have := wB_w5 (wr r); have := wr_w5 hr h5; omega) (by omega)
  rw [prd_some.mpr ⟨hr, rfl⟩] at rp
  dsimp only at rp
  have cc := re_cmpn sm.dt sm.dt S3
  obtain ⟨f', S4, l1, hI⟩ := forL_inv3 (bd := forB (.name 8) (evSs (callN Φ N) bodyTurn)) (I := fun f T => (∃ o8 o9, f = [some (.scr ns), some (.int k), c, some (.ref S.length), some (.str L), some r.d, some (.str sh), some (.str (wr r)), o8, o9]) ∧ Ef S3 T S.length) (S := S3) (xs := upFrom 0 8) (f := [some (.scr ns), some (.int k), c, some (.ref S.length), some (.str L), some r.d, some (.str sh), some (.str (wr r)), l, m])
    (fun y hy f T hf => by
      obtain ⟨⟨o8, o9, rfl⟩, ef⟩ := hf
      obtain ⟨q, hq, rfl⟩ := List.mem_map.mp hy
      obtain ⟨S', o9', h1, h2⟩ := turn60 P (N := N) (by omega) hr h5 ef (t := 0 + (q : Int)) (a := some (.scr ns)) (b := some (.int k)) (c := c) (e := some (.str L)) (g := some r.d) (i := some (.str sh)) (o8 := o8) (o9 := o9)
      exact ⟨_, S', h1, ⟨_, _, rfl⟩, h2⟩) ⟨⟨l, m, rfl⟩, Ef.refl hp3⟩
  obtain ⟨⟨o8, o9, rfl⟩, _⟩ := hI
  refine ⟨some (.ref S.length), some (.str L), some r.d, some (.str sh), some (.str (wr r)), o8, o9, S4, ?_⟩
  have r8 : rng1D (.int 8) S3 = .ok ⟨[], upFrom 0 8⟩ S3 := range_ok (by decide) (by decide) S3
  simp only [forB, bind_name, setAt_succ, setAt_zero, bodyK60, evSs_cons, evS_asg, ev_call, evs_cons, evs_nil, ev_var, getS_zero, getS_succ, Out.ok_bind, c1, Out.so_ok, asg_name, thenS_nx, c2, ev_cst, c3, ev_blt, strv, lt, evS_ifs, ev_or, ev_cmp, pt, cmp_ne (eqD_str' _ _ S3), decide_true, Bool.not_true, orD_false, ifD_false, evSs_nil, rp, cc, evS_fors, evi_r1, r8, l1]
def odd1 : List (List Nat) := [[], [97], [40, 41], [40, 97, 41], [97, 124], [124, 97], [97, 124, 124, 98], [97, 40, 98, 41], [97, 40, 98, 99, 41], [40, 97, 98, 41, 99], [40, 97, 124, 98, 41, 124, 99], [97, 124, 40, 98, 124, 99, 41], [97, 124, 40, 98, 99, 41]]
def odd2 : List (List Nat) := [[40, 97, 41, 42], [97, 42, 42], [40, 97, 98, 41, 42], [97, 98, 42], [40, 97, 42, 41, 42], [42], [97, 42, 98, 42, 124, 49], [48, 124, 49], [40, 40, 97, 124, 98, 41, 41, 99], [97, 32, 98], [65], [105], [97, 124, 98, 10]]
def odd3 : List (List Nat) := [[40, 97], [97, 41], [41, 97, 40], [40, 97, 124, 98, 41, 42, 99]]
def odd4 : List (List Nat) := [[97, 40, 40, 98, 99, 41, 100, 41], [97, 40, 98, 40, 99, 100, 41, 41], [40, 48, 124, 97, 40, 98, 99, 41, 42, 41, 49, 124, 97, 98], [50], [97, 42, 40, 98, 124, 49, 41, 42, 48], [40, 42, 97, 41], [97, 124, 42], [49, 48], [48, 49, 42]]
theorem odd_ask : ∀ T ∈ odd1 ++ odd2 ++ odd3 ++ odd4, Ask T := by
  have h : ((odd1 ++ odd2 ++ odd3 ++ odd4).all fun T => decide (T.length ≤ 10000) && (T.all (fun c => decide (c < 1114112)) && (decide (ws wL T ≤ 64) && decide (ws w5 T ≤ 280)))) = true := by decide +kernel
  intro T hT
  have := List.all_eq_true.mp h T hT
  simp only [Bool.and_eq_true, decide_eq_true_eq, List.all_eq_true] at this
  exact ⟨⟨this.1, this.2.1⟩, this.2.2.1, this.2.2.2⟩
def lstE (xs : List (List Nat)) : Es := xs.foldr (fun x r => .cons (.cst (.str x)) r) .nil
theorem lstE_ev (c : Nat → List D → Sto → Out D) (f : FS) (S : Sto) : ∀ xs : List (List Nat), evEs c (lstE xs) f S = .ok (txs xs) S
  | [] => by simp [lstE, txs]
  | x :: xs => by
    have e : lstE (x :: xs) = .cons (.cst (.str x)) (lstE xs) := rfl
    rw [e, evs_cons]
    simp only [ev_cst, Out.ok_bind, lstE_ev c f S xs]
    rfl
theorem body_k60 : f0_k60.body = .cons (.fors (.name 1) (.range1 (.blt .max (.cons (.cst (.int 2)) (.cons (.blt .min (.cons (.blt .len (.cons (.var 0) .nil)) (.cons (.cst (.int 8)) .nil))) .nil)))) bodyK60) (.cons (.asg (.name 2) (.lst (lstE odd1))) (.cons (.asg (.name 2) (.bin .add (.var 2) (.lst (lstE odd2)))) (.cons (.asg (.name 2) (.bin .add (.var 2) (.lst (lstE odd3)))) (.cons (.asg (.name 2) (.bin .add (.var 2) (.lst (lstE odd4)))) (.cons (.ret (.cmp .eq (.comp (.var 7) (.name 7) (.val (.var 2)) (.yes (.not (.call 358 (.cons (.var 7) .nil)))) [7]) (.lst .nil))) .nil))))) := rfl
theorem add_txs {xs ys : List (List Nat)} (h : xs.length + ys.length ≤ 1000) (S : Sto) : binD .add (.lst (txs xs)) (.lst (txs ys)) S = .ok (.lst (txs (xs ++ ys))) S := by
  have hz : (txs xs).length + (txs ys).length ≤ sz := by simp only [txs, List.length_map]; exact Nat.le_trans h (by decide)
  simp only [binD, items]
  rw [if_pos hz]
  simp [txs]
theorem k60_true (P : Phi60 Φ) (ns : List Int) : ∃ S, callN Φ 326 0 [.scr ns] [] = .ok (.bl true) S := by
  obtain ⟨v, hv, v0, v6⟩ : ∃ v : Int, bltD .max [.int 2, .int (if (8 : Int) < (ns.length : Int) then 8 else (ns.length : Int))] ([] : Sto) = .ok (.int v) [] ∧ 0 ≤ v ∧ v ≤ 1000 := by
    refine ⟨_, rfl, ?_, ?_⟩ <;> split <;> split <;> omega
  obtain ⟨f', S1, e1, b, d, e, g, i, j, l, m, rfl⟩ := forL_inv3 (bd := forB (.name 1) (evSs (callN Φ 325) bodyK60)) (I := fun f _ => ∃ b d e g i j l m, f = [some (.scr ns), b, none, d, e, g, i, j, l, m]) (S := []) (xs := upFrom 0 v.toNat) (f := [some (.scr ns), none, none, none, none, none, none, none, none, none])
    (fun y hy f S hf => by
      obtain ⟨b, d, e, g, i, j, l, m, rfl⟩ := hf
      obtain ⟨q, hq, rfl⟩ := List.mem_map.mp hy
      rw [show (0 : Int) + (q : Int) = (q : Int) from Int.zero_add _]
      obtain ⟨d', e', g', i', j', l', m', S', h⟩ := k60_turn P (N := 325) (by decide) (ns := ns) (k := q) (b := b) (c := none) (d := d) (e := e) (g := g) (i := i) (j := j) (l := l) (m := m) (S := S)
      exact ⟨_, S', h, _, _, _, _, _, _, _, _, rfl⟩) ⟨none, none, none, none, none, none, none, none, rfl⟩
  have hlen : bltD .len [.scr ns] ([] : Sto) = .ok (.int ns.length) [] := by simp [bltD, seqOf]
  have hmin : bltD .min [.int (ns.length : Int), .int 8] ([] : Sto) = .ok (.int (if (8 : Int) < (ns.length : Int) then 8 else (ns.length : Int))) [] := rfl
  have ad1 := add_txs (xs := odd1) (ys := odd2) (by decide) S1
  have ad2 := add_txs (xs := odd1 ++ odd2) (ys := odd3) (by decide) S1
  have ad3 := add_txs (xs := odd1 ++ odd2 ++ odd3) (ys := odd4) (by decide) S1
  have lz : ∀ xs : List (List Nat), xs.length ≤ 1000 → ((txs xs).length ≤ sz) = True := fun xs h => eq_true (by simp only [txs, List.length_map]; exact Nat.le_trans h (by decide))
  have cm : compD (.name 7) (evO (callN Φ 325) (.yes (.not (.call 358 (.cons (.var 7) .nil))))) (evE (callN Φ 325) (.var 7)) [7] [some (.scr ns), b, some (.lst (txs (odd1 ++ odd2 ++ odd3 ++ odd4))), d, e, g, i, j, l, m] ⟨[], txs (odd1 ++ odd2 ++ odd3 ++ odd4)⟩ S1 = .ok (.lst []) S1 := by
    rw [compD_filter (fun _ => false) id fun x hx => ?_]
    · simp
    · obtain ⟨T, hT, rfl⟩ := List.mem_map.mp hx
      have a := odd_ask T hT
      have bv := both_val P.a P.h356 P.h357 P.h358 a.tx a.l a.b (N := 325) (S := S1) (by decide)
      exact step_yes (f' := [some (.scr ns), b, some (.lst (txs (odd1 ++ odd2 ++ odd3 ++ odd4))), d, e, g, i, some (.str T), l, m]) rfl (by simp [bv]) (fun q => by cases q)
  have ne := eq_nil (ds := []) ⟨rfl, rfl, by decide⟩ S1
  have go : evSs (callN Φ 325) f0_k60.body (start f0_k60 [.scr ns]) [] = .ret (.bl true) S1 := by
    rw [body_k60]
    have st : start f0_k60 [.scr ns] = [some (.scr ns), none, none, none, none, none, none, none, none, none] := rfl
    rw [st]
    have A1 : evS (callN Φ 325) (.fors (.name 1) (.range1 (.blt .max (.cons (.cst (.int 2)) (.cons (.blt .min (.cons (.blt .len (.cons (.var 0) .nil)) (.cons (.cst (.int 8)) .nil))) .nil)))) bodyK60) [some (.scr ns), none, none, none, none, none, none, none, none, none] [] = .nx [some (.scr ns), b, none, d, e, g, i, j, l, m] S1 := by
      simp only [evS_fors, evi_r1, ev_blt, evs_cons, evs_nil, ev_cst, ev_var, getS_zero, Out.ok_bind, hlen, hmin, hv, range_ok v0 v6, Out.so_ok, e1]
    rw [evSs_cons, A1, thenS_nx]
    simp only [evSs_cons, evS_asg, ev_lst, lstE_ev, Out.ok_bind, lz odd1 (by decide), lz odd2 (by decide), lz odd3 (by decide), lz odd4 (by decide), if_true, Out.so_ok, asg_name, setAt_succ, setAt_zero, thenS_nx, ev_bin, ev_var, getS_succ, getS_zero, ad1, ad2, ad3, evS_ret, ev_cmp, ev_comp, evi_val, val_lst, cm, evs_nil, List.length_nil, Nat.zero_le, ne, List.isEmpty_nil, thenS_ret]
  exact ⟨_, call_ret' P.h0 ⟨rfl, by decide⟩ go⟩
end SL
set_option Elab.async false
set_option linter.all false
set_option maxRecDepth 100000
set_option maxHeartbeats 0
namespace SL.k60
open SL
theorem phi_d : PhiD (PhiOf defs) := ⟨rfl, rfl, rfl, rfl, rfl, rfl⟩
theorem phi_p : PhiP (PhiOf defs) := ⟨⟨rfl, rfl, rfl, rfl⟩, ⟨rfl, rfl, rfl, rfl⟩, rfl, rfl⟩
theorem phi_a : PhiA (PhiOf defs) := ⟨phi_p, ⟨rfl, rfl, rfl, rfl, rfl⟩, rfl, rfl, rfl⟩
theorem all_phi : Phi60 (PhiOf defs) := ⟨phi_d, phi_a, ⟨rfl, rfl⟩, rfl, rfl, rfl, rfl, rfl, rfl, rfl, rfl⟩
theorem law_true (ns : List Int) (_ : ns.length ≤ 63) : ∃ S, callN (PhiOf defs) 326 0 [.scr ns] [] = .ok (.bl true) S := k60_true all_phi ns
end SL.k60
open PySem PySem.W PySem.Calls PyProof.Rows
theorem PySem.Challenge.cw_starlines_k60_patterns_written_holds : PySem.Challenge.rw_starlines_k60_patterns_written.Holds := by
  w_on; o_law
  refine HandSHeadRun.head_any (r := OpenLaw.row PySem.Challenge.rw_starlines_k60_patterns_written) (q := view (OpenLaw.row PySem.Challenge.rw_starlines_k60_patterns_written).prog [55]) (H := SL.k60.hk) (ob := SL.k60.ob) (M := 30000) (loose := SL.k60.names) (d := HandSHeadRun.topDef (OpenLaw.row PySem.Challenge.rw_starlines_k60_patterns_written).prog 55) (kwd := []) SL.k60.ob_eq
    (by kernel_rfl) (fun s => by kernel_rfl) SL.k60.run (by kernel_rfl) (by kernel_rfl) (by kernel_rfl) (by rfl) (by first | assumption | decide +kernel) (by decide +kernel) ⟨rfl, rfl, rfl, rfl, rfl, by decide +kernel⟩ ?hw ?hc
  case hw => w_witness2
  case hc =>
    refine SL.walk_law (l := PySem.Challenge.rw_starlines_k60_patterns_written) (n := 63) (k := 326) (x := "_law_script") rfl (by decide) (by kernel_rfl) ⟨rfl, by decide, by decide⟩ fun w mg fa h Y G m0 => ?_
    obtain ⟨K, kx, c⟩ := Y
    have T := SL.k60.told c
    have nm : (HandSHeadRun.topDef (OpenLaw.row PySem.Challenge.rw_starlines_k60_patterns_written).prog 55).name = ("law" : PySem.Str) := by kernel_rfl
    rw [nm] at m0
    have e := m0.symm.trans (PySem.W.mg_of kx G (T.nm SL.k60.d_f0_k60 SL.k60.law_in))
    cases e
    obtain ⟨fd, hfd⟩ := T.fd SL.k60.d_f0_k60 SL.k60.law_in
    exact ⟨K, fd, SL.spF (SL.PhiOf SL.k60.defs) K (SL.Cof K) 326 0, kx, fun s v => L2.FunD.bindsA (ps := ["_law_script"]) hfd (SL.AllF.mem SL.k60.binds _ SL.k60.law_in) s [v] rfl, fun H a ns hl kz hS => SL.law_spec T SL.k60.law_in kz hS (SL.k60.law_true ns hl), fun bs kb gb => SL.allFn T kb gb SL.k60.binds SL.k60.phis SL.k60.checks SL.k60.inisOk 326 _ SL.k60.law_in fd hfd⟩
