import PyProof.Rows.All
import Wide.All
import OpenK.AllK
import Wide.FinOn
import PySem.Challenge.RW_dayhinges_k19_who_may_come_next
import HandS.Text
import HandS.List
import HandS.ForMost
import HandS.Exc
import HandS.TryOnly
import HandS.ExcInit
import HandS.Defaults
import KE.KDictKeyed
import HandS.Flow
import HandS.FStr
import HandS.Style
import HandS.IsInst
import HandS.TupAny
import HandS.TupMul
import HandS.More
import PyProof.ReprRoads
import HandS.SortRule
import HandS.RaiseMore
import HandS.Deep
import HandS.Conv
import HandS.Comp
import HandS.Iter
import KE.GoesMore
import PyProof.EnumMake
import HandS.Zip
import KE.KIsAll
import HandS.TryMany
import PyProof.ExcBaseAll.LookupError
import HandS.ClsMeth
import KE.KDictPairs
import PyProof.CollectIter
import PyProof.WalksMore
import HandS.Ends
import HandS.HeadHook2
import PyProof.ReprLen
import PyProof.ReprText
import PyProof.StrLawsRepr
import PyProof.Rows.StrJoinMade
import KE.KStateDown
import HandS.Words
import HandS.WordsExc
import HandS.Head0
import HandS.Head1
import HandS.Head2
import HandS.HeadEnd
section
set_option linter.all false
set_option maxRecDepth 100000
set_option Elab.async false
/-! Dy, part A: data, a small tree of code, and its interpreter (nothing of the model's machine). -/
namespace Dy
open PySem

/-- classes of exceptions -/
inductive EC where
  | noDay | noText | noView | noOrder | noPair | cycle | noOutcome | tooMany | noMatch | full | broken | noRow | noName | dayError | valueError | keyError
  deriving DecidableEq

/-- data: what can't be told from its value; ref: a thing of the heap that may change -/
inductive D where
  | non | bl (b : Bool) | int (i : Int) | str (s : Str)
  | tup (l : List D) | lst (l : List D) | dct (l : List (D × D)) | set (l : List D)
  | ref (n : Nat) | exc (c : EC) (l : List D) | scr (l : List Int) | pr (a b : D)

/-- what stands in the heap -/
inductive Ob where
  | lst (l : List D) | dct (l : List (D × D)) | ins (c : Str) (l : List (Str × D)) | dead | exc (c : EC) (l : List D)

abbrev Hh := List Ob
abbrev Sl := List (Option D)

mutual
/-- plain data, nested at most n deep -/
def D.pl : D → Nat → Bool
  | .non, _ => true
  | .bl _, _ => true
  | .int _, _ => true
  | .str _, _ => true
  | .tup l, n => match n with
    | 0 => false
    | n + 1 => D.plL l n
  | .lst l, n => match n with
    | 0 => false
    | n + 1 => D.plL l n
  | .dct _, _ => false
  | .set _, _ => false
  | .ref _, _ => false
  | .exc _ _, _ => false
  | .scr _, _ => false
  | .pr _ _, _ => false
def D.plL : List D → Nat → Bool
  | [], _ => true
  | d :: r, n => D.pl d n && D.plL r n
end
def D.py (d : D) : Bool := d.pl 60
def D.pyL (l : List D) : Bool := D.plL l 59
mutual
def D.toPy : D → PyData
  | .non => .none
  | .bl b => .bool b
  | .int i => .int i
  | .str s => .str s
  | .tup l => .tuple (D.toPyL l)
  | .lst l => .list (D.toPyL l)
  | .dct _ => .none
  | .set _ => .none
  | .ref _ => .none
  | .exc _ _ => .none
  | .scr _ => .none
  | .pr _ _ => .none
def D.toPyL : List D → List PyData
  | [] => []
  | d :: r => D.toPy d :: D.toPyL r
end
/-- == of plain data -/
def D.eqv (a b : D) : Bool := PyData.eqv a.toPy b.toPy
mutual
/-- refs below n -/
def D.bel (n : Nat) : D → Bool
  | .non => true
  | .bl _ => true
  | .int _ => true
  | .str _ => true
  | .tup l => D.belL n l
  | .lst l => D.belL n l
  | .dct l => D.belP n l
  | .set l => D.belL n l
  | .ref k => decide (k < n)
  | .exc _ l => D.belL n l
  | .scr _ => true
  | .pr a b => D.bel n a && D.bel n b
def D.belL (n : Nat) : List D → Bool
  | [] => true
  | d :: r => D.bel n d && D.belL n r
def D.belP (n : Nat) : List (D × D) → Bool
  | [] => true
  | (a, b) :: r => D.bel n a && D.bel n b && D.belP n r
end
def Ob.bel (n : Nat) : Ob → Bool
  | .lst l => D.belL n l
  | .dct l => D.belP n l
  | .ins _ l => l.all fun p => D.bel n p.2
  | .dead => true
  | .exc _ l => D.belL n l
/-- stands in the heap of the layer's -/
def Ob.live : Ob → Bool
  | .dead => false
  | .exc _ _ => false
  | _ => true

/-- what a piece of code ends in -/
inductive R (α : Type) where
  | ok (a : α) (h : Hh) | ex (c : EC) (l : List D) (h : Hh) | bad
def R.bind {α β : Type} : R α → (α → Hh → R β) → R β
  | .ok a h, f => f a h
  | .ex c l h, _ => .ex c l h
  | .bad, _ => .bad
@[simp] theorem R.bind_ok {α β : Type} (a : α) (h : Hh) (f : α → Hh → R β) : (R.ok a h).bind f = f a h := rfl
@[simp] theorem R.bind_ex {α β : Type} (c : EC) (l : List D) (h : Hh) (f : α → Hh → R β) : (R.ex c l h : R α).bind f = .ex c l h := rfl
@[simp] theorem R.bind_bad {α β : Type} (f : α → Hh → R β) : (R.bad : R α).bind f = .bad := rfl
def R.opt {α : Type} (o : Option α) (h : Hh) : R α := match o with
  | some a => .ok a h
  | none => .bad
@[simp] theorem R.opt_some {α : Type} (a : α) (h : Hh) : R.opt (some a) h = .ok a h := rfl
@[simp] theorem R.opt_none {α : Type} (h : Hh) : (R.opt none h : R α) = .bad := rfl

/-! ### the tree of code -/
inductive Bo where
  | add | sub | mul | fdiv | mod | pow
  deriving DecidableEq
inductive Co where
  | eq | ne | lt | le | gt | ge | is_ | isn | in_ | nin
  deriving DecidableEq
/-- built-in functions by position -/
inductive Bl where
  | len | tuple | list | all | any | sorted | int | str | set | max | min | abs | repr | dict | bool | sum
  deriving DecidableEq
/-- built-in methods -/
inductive Mt where
  | append | extend | pop0 | pop1 | insert | clear | index | join | split | replace | replace1 | upper | partition | get1 | get2 | setdefault | update
  deriving DecidableEq
/-- what isinstance asks for -/
inductive Ty where
  | int | bool | str | tuple | list | ec (c : EC) | own (c : Str)
  deriving DecidableEq
/-- targets -/
inductive Tg where
  | nm (i : Nat) | tp (l : Tg) | nil | cons (a r : Tg) | star (i : Nat)
/-- expressions; nil, cons: rows of expressions -/
inductive Ex where
  | nil | cons (e r : Ex)
  | var (i : Nat) | kn | kb (b : Bool) | ki (i : Int) | ks (s : Str) | glo (x : Str)
  | bin (m : Bool) (o : Bo) (a b : Ex) | neg (a : Ex)
  | cmp (o : Co) (a b : Ex) | cmp2 (o o' : Co) (a b c : Ex)
  | not (a : Ex) | and (a b : Ex) | or (a b : Ex) | ife (c a b : Ex)
  | tup (es : Ex) | lst (m : Bool) (es : Ex) | dct (m : Bool) (es : Ex) | set (es : Ex)
  | call (f : Str) (es : Ex) (ks : List Str) (kes : Ex)
  | mk (c : Str) (es : Ex) (ks : List Str) (kes : Ex)
  | mcall (o : Ex) (c m : Str) (es : Ex) (ks : List Str) (kes : Ex)
  | exc (c : EC) (es : Ex)
  | blt (m : Bool) (b : Bl) (es : Ex) | mindef (a d : Ex) | sortrev (a : Ex)
  | met (m : Bool) (mt : Mt) (o : Ex) (es : Ex)
  | isi (a : Ex) (ts : List Ty)
  | attr (o : Ex) (f : Str) | exf (i : Nat) (f : Str) | ise (i : Nat) (cs : List EC)
  | sub (o i : Ex) | sli (m : Bool) (o lo hi : Ex) | rev (m : Bool) (o : Ex)
  | fst (es : Ex)
  | lc (m : Bool) (e : Ex) (t : Tg) (it c : Ex)
  | lc2 (m : Bool) (e : Ex) (t : Tg) (it c : Ex) (t' : Tg) (it' c' : Ex)
  | dc (m : Bool) (k v : Ex) (t : Tg) (it : Ex)
  | dc2 (m : Bool) (k v : Ex) (t : Tg) (it : Ex) (t' : Tg) (it' : Ex)
  | sc (e : Ex) (t : Tg) (it : Ex)
  | listr (m : Bool) (a : Ex) | rng (es : Ex) | enum (a : Ex) | zip (strict : Bool) (a b : Ex) | items (a : Ex) | values (a : Ex) | revr (a : Ex)
  | frz (a : Ex)
/-- statements; hnil, hcons: except clauses -/
inductive St where
  | nil | cons (s r : St)
  | asg (t : Tg) (e : Ex) | asgA (o : Ex) (f : Str) (e : Ex) | asgS (o i e : Ex)
  | asgSS (o i o' i' e e' : Ex) | asgSN (o i : Ex) (n : Nat) (e e' : Ex)
  | aug (i : Nat) (o : Bo) (e : Ex)
  | ex (e : Ex) | for_ (t : Tg) (it : Ex) (b : St) | while_ (c : Ex) (b : St) | if_ (c : Ex) (a b : St)
  | ret (e : Ex) | retN | raise (fromN : Bool) (c : EC) (es : Ex) | again
  | try_ (b hs : St) | fin (b f : St)
  | hnil | hcons (cs : List EC) (n : Option Nat) (b r : St)
  | brk | cnt | pass | frzv (i : Nat)

/-! ### operations -/
def sizeL : Nat := 16777216
/-- a sequence's items -/
def seqOf (h : Hh) : D → Option (List D)
  | .tup l => some l
  | .lst l => some l
  | .ref n => match h[n]? with
    | some (.lst l) => some l
    | _ => none
  | _ => none
/-- a list's items -/
def lstOf (h : Hh) : D → Option (List D)
  | .lst l => some l
  | .ref n => match h[n]? with
    | some (.lst l) => some l
    | _ => none
  | _ => none
def strOf : D → Option Str
  | .str s => some s
  | _ => none
def intOf : D → Option Int
  | .int i => some i
  | _ => none
def strsOf : List D → Option (List Str)
  | [] => some []
  | .str s :: r => (strsOf r).map (s :: ·)
  | _ :: _ => none
def intsOf : List D → Option (List Int)
  | [] => some []
  | .int s :: r => (intsOf r).map (s :: ·)
  | _ :: _ => none
def dctOf (h : Hh) : D → Option (List (D × D))
  | .dct l => some l
  | .ref n => match h[n]? with
    | some (.dct l) => some l
    | _ => none
  | _ => none
/-- all keys are ints and texts -/
def scK (l : List (D × D)) : Bool := l.all fun p => match p.1 with
  | .int _ => true
  | .str _ => true
  | _ => false
def truthy (h : Hh) : D → Option Bool
  | .non => some false
  | .bl b => some b
  | .int i => some (i != 0)
  | .str s => some (s.length != 0)
  | .tup l => some (!l.isEmpty)
  | .lst l => some (!l.isEmpty)
  | .dct l => if scK l then some (!l.isEmpty) else none
  | .ref n => match h[n]? with
    | some (.lst l) => some (!l.isEmpty)
    | some (.dct l) => if scK l then some (!l.isEmpty) else none
    | _ => none
  | _ => none
def pow64 : Int := 18446744073709551616
def mulOk (i j : Int) : Bool := (decide (-pow64 < i) && decide (i < pow64)) || (decide (-pow64 < j) && decide (j < pow64))
/-- a list made: one that may change, or one that stays -/
def mkL (m : Bool) (l : List D) (h : Hh) : R D := if m then .ok (.ref h.length) (h ++ [.lst l]) else .ok (.lst l) h
def mkD (m : Bool) (l : List (D × D)) (h : Hh) : R D := if m then .ok (.ref h.length) (h ++ [.dct l]) else .ok (.dct l) h
def repL {α : Type} (x : List α) (j : Int) : Option (List α) :=
  if -9223372036854775808 ≤ j ∧ j < 9223372036854775808 ∧ x.length * j.toNat ≤ sizeL then some (List.replicate j.toNat x).flatten else none
def addL (m : Bool) (x y : Option (List D)) (h : Hh) : R D := match x, y with
  | some x, some y => if x.length + y.length ≤ sizeL then mkL m (x ++ y) h else .bad
  | _, _ => .bad
def binD (m : Bool) (o : Bo) (a b : D) (h : Hh) : R D := match o, a, b with
  | .add, .int i, .int j => .ok (.int (i + j)) h
  | .add, .str x, .str y => if x.length + y.length ≤ sizeL then .ok (.str (x ++ y)) h else .bad
  | .add, .tup x, .tup y => if x.length + y.length ≤ sizeL then .ok (.tup (x ++ y)) h else .bad
  | .add, .lst x, .lst y => addL m (some x) (some y) h
  | .add, .lst x, .ref n => addL m (some x) (seqOf h (.ref n)) h
  | .add, .ref n, .lst y => addL m (seqOf h (.ref n)) (some y) h
  | .add, .ref n, .ref k => addL m (seqOf h (.ref n)) (seqOf h (.ref k)) h
  | .sub, .int i, .int j => .ok (.int (i - j)) h
  | .mul, .int i, .int j => if mulOk i j then .ok (.int (i * j)) h else .bad
  | .mul, .str x, .int j => if 0 ≤ j ∧ j ≤ 1000 ∧ x.length ≤ 1000 then .ok (.str ⟨(List.replicate j.toNat x.cps.toList).flatten.toArray⟩) h else .bad
  | .mul, .lst x, .int j => match repL x j with
    | some l => mkL m l h
    | none => .bad
  | .fdiv, .int i, .int j => if 0 < j ∧ j < 1073741824 then .ok (.int (i / j)) h else .bad
  | .mod, .int i, .int j => if 0 < j then .ok (.int (i % j)) h else .bad
  | .pow, .int i, .int j => if 0 ≤ j ∧ j ≤ 1000000 ∧ i.natAbs < 18446744073709551616 then .ok (.int (i ^ j.toNat)) h else .bad
  | _, _, _ => .bad

/-! order -/
mutual
def ltD : D → D → Option Bool
  | .int i, .int j => some (decide (i < j))
  | .str x, .str y => some (decide (x.cps.toList < y.cps.toList))
  | .tup l, .tup m => ltL l m
  | _, _ => none
def ltL : List D → List D → Option Bool
  | [], [] => some false
  | [], _ :: _ => some true
  | _ :: _, [] => some false
  | a :: l, b :: m => match ltD a b with
    | none => none
    | some c => if D.eqv a b then ltL l m else some c
end
def ltB (a b : D) : Bool := (ltD a b).getD false
def insD (x : D) : List D → List D
  | [] => [x]
  | y :: r => if ltB y x then y :: insD x r else x :: y :: r
def isort : List D → List D
  | [] => []
  | x :: r => insD x (isort r)
def D.isPair : D → Bool
  | .tup [.int _, .int _] => true
  | _ => false
/-- sorted: as far as it is known here -/
def sortD (l : List D) : Option (List D) := if l.all D.isPair then some (isort l) else none

mutual
/-- a key of a dict, an item of a set, nested at most n deep -/
def D.ky : D → Nat → Bool
  | .non, _ => true
  | .bl _, _ => true
  | .int _, _ => true
  | .str _, _ => true
  | .tup l, n => match n with
    | 0 => false
    | n + 1 => D.kyL l n
  | .lst _, _ => false
  | .dct _, _ => false
  | .set _, _ => false
  | .ref _, _ => false
  | .exc _ _, _ => false
  | .scr _, _ => false
  | .pr _ _, _ => false
def D.kyL : List D → Nat → Bool
  | [], _ => true
  | d :: r, n => D.ky d n && D.kyL r n
end
def D.key (d : D) : Bool := d.ky 8
def D.isSc : D → Bool
  | .int _ => true
  | .str _ => true
  | _ => false
def D.isTup : D → Bool
  | .tup _ => true
  | _ => false
/-- x may be asked of a dict with these items: all keys ints and texts, or all tuples -/
def homK (x : D) (l : List (D × D)) : Bool := if x.isSc then scK l else false
def D.isMe (n : Nat) : D → Bool
  | .ref k => k == n
  | _ => false
def getK (k : D) : List (D × D) → Option D
  | [] => none
  | (a, v) :: r => if D.eqv a k then some v else getK k r
def putK (k v : D) : List (D × D) → List (D × D)
  | [] => [(k, v)]
  | (a, w) :: r => if D.eqv a k then (a, v) :: r else (a, w) :: putK k v r
def hasD (x : D) (l : List D) : Bool := l.any fun y => D.eqv y x
def addS (l : List D) (x : D) : List D := if hasD x l then l else l ++ [x]
def setOf (l : List D) : List D := l.foldl addS []

/-! comparisons -/
def D.isNon : D → Bool
  | .non => true
  | _ => false
/-- a list that may change, as it stands now -/
def res (h : Hh) : D → D
  | .ref n => match h[n]? with
    | some (.lst l) => .lst l
    | _ => .ref n
  | d => d
def eqD (h : Hh) (a b : D) : Option Bool := match a, b with
  | .set x, .set y => if D.pyL x && D.pyL y then some (x.all (fun d => hasD d y) && y.all fun d => hasD d x) else none
  | a, b => if (res h a).py && (res h b).py then some (D.eqv (res h a) (res h b)) else none
def inD (h : Hh) (x : D) : D → Option Bool
  | .str y => match x with
    | .str z => some (!(Builtin.Str.occurrences y z 0 y.length 1).isEmpty)
    | _ => none
  | .tup l => if x.py && D.pyL l then some (hasD x l) else none
  | .lst l => if x.py && D.pyL l then some (hasD x l) else none
  | .set l => if x.key && D.pyL l then some (hasD x l) else none
  | .dct l => if homK x l then some (getK x l).isSome else none
  | .ref n => match h[n]? with
    | some (.lst l) => if x.py && D.pyL l then some (hasD x l) else none
    | some (.dct l) => if homK x l then some (getK x l).isSome else none
    | _ => none
  | _ => none
def cmpD (h : Hh) (o : Co) (a b : D) : Option Bool := match o with
  | .eq => eqD h a b
  | .ne => (eqD h a b).map (!·)
  | .lt => match a, b with
    | .int i, .int j => some (decide (i < j))
    | .str _, .str _ => ltD a b
    | _, _ => none
  | .le => match a, b with
    | .int i, .int j => some (decide (i ≤ j))
    | _, _ => none
  | .gt => match a, b with
    | .int i, .int j => some (decide (j < i))
    | _, _ => none
  | .ge => match a, b with
    | .int i, .int j => some (decide (j ≤ i))
    | _, _ => none
  | .is_ => match b, a with
    | .non, a => some a.isNon
    | .bl c, .bl k => some (decide (k = c))
    | _, _ => none
  | .isn => match b, a with
    | .non, a => some (!a.isNon)
    | .bl c, .bl k => some (!decide (k = c))
    | _, _ => none
  | .in_ => inD h a b
  | .nin => (inD h a b).map (!·)

/-- a text within the model's bounds -/
def sOk (s : Str) : Bool := PyData.strOk s && decide (s.length ≤ sizeL)
/-! places -/
def cutL {α : Type} (l : List α) (lo hi : Option Int) : List α := (l.drop (HT.sIx l.length 0 lo)).take (HT.sIx l.length l.length hi - HT.sIx l.length 0 lo)
abbrev atL {α : Type} (l : List α) (i : Int) : Option α := L2.atI l i
def boundOf : D → Option (Option Int)
  | .non => some none
  | .int i => some (some i)
  | _ => none
def subD (h : Hh) (a i : D) : Option D := match a, i with
  | .tup l, .int i => atL l i
  | .lst l, .int i => atL l i
  | .scr l, .int i => (atL l i).map .int
  | .str s, .int i => (atL s.cps.toList i).map fun c => .str ⟨#[c]⟩
  | .dct l, k => if homK k l then getK k l else none
  | .ref n, i => match h[n]? with
    | some (.lst l) => match i with
      | .int i => atL l i
      | _ => none
    | some (.dct l) => if homK i l then getK i l else none
    | _ => none
  | _, _ => none
def sliD (m : Bool) (a : D) (lo hi : Option Int) (h : Hh) : R D := match a with
  | .tup l => .ok (.tup (cutL l lo hi)) h
  | .str s => .ok (.str ⟨(cutL s.cps.toList lo hi).toArray⟩) h
  | a => match seqOf h a with
    | some l => mkL m (cutL l lo hi) h
    | none => .bad
/-- a slice's bound; b: none is written -/
def bdR (b : Bool) (r : R D) : R (Option Int) := r.bind fun x h => match x with
  | .non => if b then .ok none h else .bad
  | .int i => if b then .bad else .ok (some i) h
  | _ => .bad
def Ex.isKn : Ex → Bool
  | .kn => true
  | _ => false
def revD (m : Bool) (a : D) (h : Hh) : R D := match a with
  | .lst l => mkL m l.reverse h
  | .ref n => match h[n]? with
    | some (.lst l) => mkL m l.reverse h
    | _ => .bad
  | _ => .bad
def putD (a i v : D) (h : Hh) : R Unit := match a with
  | .ref n => match h[n]? with
    | some (.lst l) => match i with
      | .int i => if 0 ≤ i ∧ i.toNat < l.length then .ok () (h.set n (.lst (l.set i.toNat v))) else .bad
      | _ => .bad
    | some (.dct l) => if homK i l ∧ l.length < sizeL then .ok () (h.set n (.dct (putK i v l))) else .bad
    | _ => .bad
  | _ => .bad

/-! classes -/
def EC.fs : EC → List String
  | .noDay => ["word", "visitor", "case"]
  | .noText => ["row"]
  | .noView => ["at"]
  | .noOrder => ["at"]
  | .noPair => ["at"]
  | .cycle => ["names"]
  | .noOutcome => []
  | .tooMany => ["many"]
  | .noMatch => ["word"]
  | .full => ["most"]
  | .broken => ["at"]
  | .noRow => []
  | .noName => ["name"]
  | .dayError => []
  | .valueError => []
  | .keyError => []
/-- the class's name -/
def EC.nm : EC → String
  | .noDay => "NoDay"
  | .noText => "NoText"
  | .noView => "NoView"
  | .noOrder => "NoOrder"
  | .noPair => "NoPair"
  | .cycle => "Cycle"
  | .noOutcome => "NoOutcome"
  | .tooMany => "TooMany"
  | .noMatch => "NoMatch"
  | .full => "Full"
  | .broken => "Broken"
  | .noRow => "NoRow"
  | .noName => "NoName"
  | .dayError => "DayError"
  | .valueError => "ValueError"
  | .keyError => "KeyError"
/-- of the language's own -/
def EC.blt : EC → Bool
  | .valueError => true
  | .keyError => true
  | _ => false
/-- may be raised here -/
def EC.leaf : EC → Bool
  | .dayError => false
  | .valueError => false
  | .keyError => false
  | _ => true
def EC.sub (c d : EC) : Bool := c == d || match d with
  | .dayError => c.leaf && c != .noName
  | .valueError => (c.leaf && c != .noName) || c == .dayError
  | .keyError => c == .noName
  | _ => false
def Ty.has (h : Hh) (d : D) : Ty → Bool
  | .int => match d with | .int _ => true | .bl _ => true | _ => false
  | .bool => match d with | .bl _ => true | _ => false
  | .str => match d with | .str _ => true | _ => false
  | .tuple => match d with | .tup _ => true | _ => false
  | .list => match d with
    | .lst _ => true
    | .ref n => match h[n]? with | some (.lst _) => true | _ => false
    | _ => false
  | .ec c => match d with | .exc c' _ => c'.sub c | _ => false
  | .own c => match d with
    | .ref n => match h[n]? with | some (.ins c' _) => c' == c | _ => false
    | _ => false
/-- a value whose type is told here -/
def known (h : Hh) : D → Bool
  | .non => true
  | .bl _ => true
  | .int _ => true
  | .str _ => true
  | .tup _ => true
  | .lst _ => true
  | .ref n => match h[n]? with | some (.lst _) => true | _ => false
  | _ => false
def Ty.isB : Ty → Bool
  | .ec _ => false
  | .own _ => false
  | _ => true
/-- the exception in hand, by its slot -/
def exOf (h : Hh) (o : Option (Option D)) : Option (EC × List D) := match o with
  | some (some (.ref n)) => match h[n]? with
    | some (.exc c l) => some (c, l)
    | _ => none
  | _ => none
def attrD (h : Hh) (a : D) (f : Str) : Option D := match a with
  | .ref n => match h[n]? with
    | some (.ins _ fs) => fs.lookup f
    | _ => none
  | .exc c l => ((c.fs.map Str.ofString).zip l).lookup f
  | _ => none
def putA (f : Str) (v : D) : List (Str × D) → List (Str × D)
  | [] => [(f, v)]
  | (g, w) :: r => if g = f then (g, v) :: r else (g, w) :: putA f v r
def setA (a : D) (f : Str) (v : D) (h : Hh) : R Unit := match a with
  | .ref n => match h[n]? with
    | some (.ins c fs) => if fs.length < 100 then .ok () (h.set n (.ins c (putA f v fs))) else .bad
    | _ => .bad
  | _ => .bad

/-! built-in functions -/
def lenD (h : Hh) : D → Option Nat
  | .str s => some s.length
  | .dct l => if scK l then some l.length else none
  | .set l => some l.length
  | .ref n => match h[n]? with
    | some (.lst l) => some l.length
    | some (.dct l) => if scK l then some l.length else none
    | _ => none
  | .tup l => some l.length
  | .lst l => some l.length
  | .scr l => some l.length
  | _ => none
/-- what list(x), tuple(x), sorted(x), set(x) take -/
def itemsOf (h : Hh) : D → Option (List D)
  | .str s => some (s.cps.toList.map fun c => .str ⟨#[c]⟩)
  | .dct l => if scK l then some (l.map (·.1)) else none
  | .ref n => match h[n]? with
    | some (.lst l) => some l
    | some (.dct l) => if scK l then some (l.map (·.1)) else none
    | _ => none
  | .tup l => some l
  | .lst l => some l
  | _ => none
def textOf : D → Option Str
  | .str s => some s
  | .int i => if i.natAbs.log2 < 1920 then some (toString i) else none
  | _ => none
def pairsOf : List D → Option (List (D × D))
  | [] => some []
  | .tup [a, b] :: r => if a.isSc then (pairsOf r).map ((a, b) :: ·) else none
  | _ :: _ => none
def dictOf (l : List (D × D)) : List (D × D) := l.foldl (fun m p => putK p.1 p.2 m) []
def maxI : List Int → Option Int
  | [] => none
  | i :: r => some (r.foldl (fun m j => if m < j then j else m) i)
def minI : List Int → Option Int
  | [] => none
  | i :: r => some (r.foldl (fun m j => if j < m then j else m) i)
def boolsOf : List D → Option (List Bool)
  | [] => some []
  | .bl b :: r => (boolsOf r).map (b :: ·)
  | _ :: _ => none
/-- what list(x) takes -/
def lsOf (h : Hh) (a : D) : Option (List D) := match dctOf h a with
  | some l => if scK l then some (l.map (·.1)) else none
  | none => seqOf h a
def bltD (m : Bool) (b : Bl) (as : List D) (h : Hh) : R D := match b, as with
  | .len, [a] => (R.opt (lenD h a) h).bind fun n h => .ok (.int n) h
  | .tuple, [a] => (R.opt (seqOf h a) h).bind fun l h => .ok (.tup l) h
  | .list, [a] => (R.opt (lsOf h a) h).bind fun l h => mkL m l h
  | .all, [a] => (R.opt ((lstOf h a).bind boolsOf) h).bind fun l h => .ok (.bl (l.all id)) h
  | .any, [a] => (R.opt ((lstOf h a).bind boolsOf) h).bind fun l h => .ok (.bl (l.any id)) h
  | .sorted, [.set l] => (R.opt (sortD l) h).bind fun l h => mkL m l h
  | .sorted, [a] => (R.opt ((lstOf h a).bind sortD) h).bind fun l h => mkL m l h
  | .int, [.int i] => .ok (.int i) h
  | .int, [.bl k] => .ok (.int (if k then 1 else 0)) h
  | .int, [.str s] => if s.length ≤ 640 then (R.opt (intText? s) h).bind fun i h => .ok (.int i) h else .bad
  | .str, [a] => (R.opt (textOf a) h).bind fun s h => .ok (.str s) h
  | .set, [] => .ok (.set []) h
  | .set, [a] => (R.opt (itemsOf h a) h).bind fun l h => if l.all D.key then .ok (.set (setOf l)) h else .bad
  | .max, [.int i, .int j] => .ok (.int (if i < j then j else i)) h
  | .min, [.int i, .int j] => .ok (.int (if j < i then j else i)) h
  | .max, [a] => (R.opt (((lstOf h a).bind intsOf).bind maxI) h).bind fun i h => .ok (.int i) h
  | .min, [a] => (R.opt (((lstOf h a).bind intsOf).bind minI) h).bind fun i h => .ok (.int i) h
  | .abs, [.int i] => .ok (.int (if i < 0 then -i else i)) h
  | .repr, [a] => if a.py && PyData.showable a.toPy && sOk (PyData.shown a.toPy) then .ok (.str (PyData.shown a.toPy)) h else .bad
  | .dict, [a] => (R.opt ((seqOf h a).bind pairsOf) h).bind fun l h => if l.length ≤ sizeL then mkD m (dictOf l) h else .bad
  | .bool, [a] => (R.opt (truthy h a) h).bind fun b h => .ok (.bl b) h
  | .sum, [a] => (R.opt ((lstOf h a).bind intsOf) h).bind fun l h => .ok (.int l.sum) h
  | _, _ => .bad

/-! built-in methods -/
def firstAt (x : D) : List D → Nat → Option Nat
  | [], _ => none
  | y :: r, i => if D.eqv y x then some i else firstAt x r (i + 1)
def joinLen (a : Str) (l : List Str) : Nat := (l.map (·.length + a.length)).sum
def metD (m : Bool) (t : Mt) (a : D) (as : List D) (h : Hh) : R D := match t, a, as with
  | .append, .ref n, [d] => match h[n]? with
    | some (.lst l) => if l.length < sizeL then .ok .non (h.set n (.lst (l ++ [d]))) else .bad
    | _ => .bad
  | .extend, .ref n, [d] => match h[n]?, lstOf h d with
    | some (.lst l), some r => if l.length + r.length ≤ sizeL ∧ d.isMe n = false then .ok .non (h.set n (.lst (l ++ r))) else .bad
    | _, _ => .bad
  | .pop0, .ref n, [] => match h[n]? with
    | some (.lst l) => match l.getLast? with
      | some d => .ok d (h.set n (.lst l.dropLast))
      | none => .bad
    | _ => .bad
  | .pop1, .ref n, [.int i] => match h[n]? with
    | some (.lst l) => if 0 ≤ i then match l[i.toNat]? with
      | some d => .ok d (h.set n (.lst (l.eraseIdx i.toNat)))
      | none => .bad
      else .bad
    | _ => .bad
  | .insert, .ref n, [.int i, d] => match h[n]? with
    | some (.lst l) => if 0 ≤ i ∧ i.toNat ≤ l.length ∧ l.length < sizeL then .ok .non (h.set n (.lst (l.take i.toNat ++ d :: l.drop i.toNat))) else .bad
    | _ => .bad
  | .clear, .ref n, [] => match h[n]? with
    | some (.lst _) => .ok .non (h.set n (.lst []))
    | _ => .bad
  | .index, a, [x] => match lstOf h a with
    | some l => if x.py && D.pyL l then (R.opt (firstAt x l 0) h).bind fun i h => .ok (.int i) h else .bad
    | _ => .bad
  | .join, .str a, [x] => match (seqOf h x).bind strsOf with
    | some l => if joinLen a l ≤ sizeL then .ok (.str (Str.join a l)) h else .bad
    | none => .bad
  | .split, .str a, [.str b] => if b.length = 0 ∨ sizeL < a.length + 2 ∨ (Txt.split a b).all sOk = false then .bad else mkL m ((Txt.split a b).map .str) h
  | .replace, .str a, [.str b, .str c] => if b.length = 0 ∨ sizeL < a.length + (a.length + 1) * c.length ∨ sOk (Txt.replace a b c) = false then .bad else .ok (.str (Txt.replace a b c)) h
  | .upper, .str a, [] => if a.length ≤ 5592405 ∧ sOk (Txt.upper a) = true then .ok (.str (Txt.upper a)) h else .bad
  | .get1, a, [k] => match dctOf h a with
    | some l => if homK k l then .ok ((getK k l).getD .non) h else .bad
    | none => .bad
  | .get2, a, [k, d] => match dctOf h a with
    | some l => if homK k l then .ok ((getK k l).getD d) h else .bad
    | none => .bad
  | .setdefault, .ref n, [k, d] => match h[n]? with
    | some (.dct l) => if homK k l ∧ l.length < sizeL then match getK k l with
      | some v => .ok v h
      | none => .ok d (h.set n (.dct (l ++ [(k, d)])))
      else .bad
    | _ => .bad
  | .update, .ref n, [.dct r] => match h[n]? with
    | some (.dct l) => if l.length + r.length ≤ sizeL then .ok .non (h.set n (.dct (r.foldl (fun m p => putK p.1 p.2 m) l))) else .bad
    | _ => .bad
  | _, _, _ => .bad

/-- a method's own object is of its kind -/
def D.isStr : D → Bool
  | .str _ => true
  | _ => false
def Mt.kind : Mt → Nat
  | .append => 0
  | .extend => 0
  | .pop0 => 0
  | .pop1 => 0
  | .insert => 0
  | .clear => 0
  | .index => 0
  | .join => 1
  | .split => 1
  | .replace => 1
  | .replace1 => 1
  | .upper => 1
  | .partition => 1
  | _ => 2
def Mt.rcv (t : Mt) (h : Hh) (a : D) : Bool := match t.kind with
  | 0 => (lstOf h a).isSome
  | 1 => a.isStr
  | _ => (dctOf h a).isSome
/-! ### the interpreter -/
/-- the world of a piece of code: what calls give, the module's constants -/
structure Cl where
  call : Str → List D → List Str → List D → Hh → R D
  gl : Str → Option D
/-- what a target takes apart -/
def seqP (h : Hh) (d : D) : Option (List D) := match d with
  | .pr a b => some [a, b]
  | d => seqOf h d
/-- a target takes a value -/
def setT : Tg → D → Sl → Hh → Option Sl
  | .nm i, d, σ, _ => some (σ.set i (some d))
  | .tp t, d, σ, h => match seqP h d with
    | some l => setT t (.tup l) σ h
    | none => none
  | .nil, .tup [], σ, _ => some σ
  | .cons (.star i) .nil, .tup l, σ, _ => some (σ.set i (some (.lst l)))
  | .cons a r, .tup (d :: l), σ, h => match setT a d σ h with
    | some σ => setT r (.tup l) σ h
    | none => none
  | _, _, _, _ => none
/-- what is walked: items that stay, or a thing of the heap -/
inductive Src where
  | its (l : List D) | live (n : Nat)
def srcOf (h : Hh) : D → Option Src
  | .tup l => some (.its l)
  | .lst l => some (.its l)
  | .ref n => match h[n]? with
    | some (.lst _) => some (.live n)
    | _ => none
  | _ => none
def rangeL (a b : Int) : List D := (List.range (b - a).toNat).map fun k => .int (a + (k : Nat))
def smallI (i : Int) : Bool := decide (-4611686018427387904 ≤ i) && decide (i < 4611686018427387904)
def rngD : List D → Option (List D)
  | [.int j] => if smallI j then some (rangeL 0 j) else none
  | [.int i, .int j] => if smallI i && smallI j then some (rangeL i j) else none
  | _ => none
def enumL : Nat → List D → List D
  | _, [] => []
  | k, d :: r => .pr (.int k) d :: enumL (k + 1) r
def zipL : List D → List D → List D
  | a :: l, b :: m => .pr a b :: zipL l m
  | _, _ => []
/-- how many turns a loop without a bound of its own may take -/
def turns : Nat := 1000000000
/-- the loop of a comprehension; f: one turn, what it adds -/
def compL (f : D → Hh → R (List D)) : List D → List D → Hh → R (List D)
  | [], acc, h => .ok acc h
  | d :: r, acc, h => (f d h).bind fun x h => if acc.length + x.length ≤ sizeL then compL f r (acc ++ x) h else .bad
def compV (f : D → Hh → R (List D)) (n : Nat) : Nat → Nat → List D → Hh → R (List D)
  | 0, _, _, _ => .bad
  | k + 1, i, acc, h => match h[n]? with
    | some (.lst l) => match l[i]? with
      | none => .ok acc h
      | some d => (f d h).bind fun x h => if acc.length + x.length ≤ sizeL then compV f n k (i + 1) (acc ++ x) h else .bad
    | _ => .bad
def compS (f : D → Hh → R (List D)) (s : Src) (h : Hh) : R (List D) := match s with
  | .its l => compL f l [] h
  | .live n => compV f n turns 0 [] h
/-- an error does not leave a comprehension -/
def R.calm {α : Type} : R α → R α
  | .ok a h => .ok a h
  | _ => .bad
/-- an f-string's texts -/
def fstL : List D → Option (List Str)
  | [] => some []
  | d :: r => match textOf d, fstL r with
    | some s, some l => some (s :: l)
    | _, _ => none
def asTup : D → List D
  | .tup l => l
  | _ => []
/-- a display's keys and values, in turns -/
def altP : List D → Option (List (D × D))
  | [] => some []
  | a :: b :: r => if a.isSc then (altP r).map ((a, b) :: ·) else none
  | _ => none
/-- the slots of a target; forgotten -/
def Tg.slots : Tg → List Nat
  | .nm i => [i]
  | .star i => [i]
  | .tp t => t.slots
  | .nil => []
  | .cons a r => a.slots ++ r.slots
def clr (σ : Sl) : List Nat → Sl
  | [] => σ
  | i :: r => (clr σ r).set i none
/-- one turn of a comprehension: the target, then what stands behind it -/
def turn (t : Tg) (σ : Sl) (g : Sl → Hh → R (List D)) (d : D) (h : Hh) : R (List D) := match setT t d σ h with
  | none => .bad
  | some σ => g σ h
def one (f : R D) : R (List D) := f.bind fun y h => .ok [y] h
def iff (t : R D) (g : Hh → R (List D)) : R (List D) := t.bind fun x h => (R.opt (truthy h x) h).bind fun k h => if k then g h else .ok [] h
/-- zip of two tuples or two lists -/
def zipD (x y : D) (h : Hh) : R D := match x, y with
  | .tup l, .tup m => .ok (.tup (zipL l m)) h
  | .lst l, .lst m => .ok (.tup (zipL l m)) h
  | _, _ => .bad
def pairOf (k : R D) (v : Hh → R D) : R (List D) := k.bind fun x h => (v h).bind fun y h => if x.key then .ok [.tup [x, y]] h else .bad
section
variable (c : Cl)
/-- an expression; rows of expressions give tuples; what a loop walks gives its items -/
def evalE : Ex → Sl → Hh → R D
  | .nil, _, h => .ok (.tup []) h
  | .cons e r, σ, h => (evalE e σ h).bind fun x h => (evalE r σ h).bind fun y h => .ok (.tup (x :: asTup y)) h
  | .var i, σ, h => match σ[i]? with
    | some (some d) => .ok d h
    | _ => .bad
  | .kn, _, h => .ok .non h
  | .kb b, _, h => .ok (.bl b) h
  | .ki i, _, h => .ok (.int i) h
  | .ks s, _, h => .ok (.str s) h
  | .glo x, _, h => R.opt (c.gl x) h
  | .bin m o a b, σ, h => (evalE a σ h).bind fun x h => (evalE b σ h).bind fun y h => binD m o x y h
  | .neg a, σ, h => (evalE a σ h).bind fun x h => match x with
    | .int i => .ok (.int (-i)) h
    | _ => .bad
  | .cmp o a b, σ, h => (evalE a σ h).bind fun x h => (evalE b σ h).bind fun y h => (R.opt (cmpD h o x y) h).bind fun k h => .ok (.bl k) h
  | .cmp2 o o' a b d, σ, h => (evalE a σ h).bind fun x h => (evalE b σ h).bind fun y h => (R.opt (cmpD h o x y) h).bind fun k h =>
    if k then (evalE d σ h).bind fun z h => (R.opt (cmpD h o' y z) h).bind fun k h => .ok (.bl k) h else .ok (.bl false) h
  | .not a, σ, h => (evalE a σ h).bind fun x h => (R.opt (truthy h x) h).bind fun k h => .ok (.bl (!k)) h
  | .and a b, σ, h => (evalE a σ h).bind fun x h => (R.opt (truthy h x) h).bind fun k h => if k then evalE b σ h else .ok x h
  | .or a b, σ, h => (evalE a σ h).bind fun x h => (R.opt (truthy h x) h).bind fun k h => if k then .ok x h else evalE b σ h
  | .ife t a b, σ, h => (evalE t σ h).bind fun x h => (R.opt (truthy h x) h).bind fun k h => if k then evalE a σ h else evalE b σ h
  | .tup es, σ, h => evalE es σ h
  | .lst m es, σ, h => (evalE es σ h).bind fun x h => mkL m (asTup x) h
  | .dct m es, σ, h => (evalE es σ h).bind fun x h => (R.opt (altP (asTup x)) h).bind fun l h => mkD m (dictOf l) h
  | .set _, _, _ => .bad
  | .call f es ks kes, σ, h => (evalE es σ h).bind fun x h => (evalE kes σ h).bind fun y h => c.call f (asTup x) ks (asTup y) h
  | .mk k es ks kes, σ, h => (evalE es σ h).bind fun x h => (evalE kes σ h).bind fun y h =>
    (c.call (k ++ ".__init__") (.ref h.length :: asTup x) ks (asTup y) (h ++ [.ins k []])).bind fun v h' => match v with
      | .non => .ok (.ref h.length) h'
      | _ => .bad
  | .mcall o k f es ks kes, σ, h => (evalE o σ h).bind fun s h => match s with
    | .ref n => match h[n]? with
      | some (.ins k' fs) => if k' = k ∧ (fs.lookup f).isNone then (evalE es σ h).bind fun x h => (evalE kes σ h).bind fun y h => c.call (k ++ "." ++ f) (s :: asTup x) ks (asTup y) h else .bad
      | _ => .bad
    | _ => .bad
  | .exc k es, σ, h => (evalE es σ h).bind fun x h => if (asTup x).length = k.fs.length then .ok (.exc k (asTup x)) h else .bad
  | .blt m b es, σ, h => (evalE es σ h).bind fun x h => bltD m b (asTup x) h
  | .mindef a d, σ, h => (evalE a σ h).bind fun x h => (evalE d σ h).bind fun y h => match (lstOf h x).bind intsOf with
    | some l => match minI l with
      | some i => .ok (.int i) h
      | none => .ok y h
    | none => .bad
  | .sortrev a, σ, h => (evalE a σ h).bind fun x h => (R.opt (dctOf h x) h).bind fun l h => (R.opt (sortD (l.map (·.1))) h).bind fun l h => .ok (.lst l.reverse) h
  | .met m t o es, σ, h => (evalE o σ h).bind fun a h => if t.rcv h a then (evalE es σ h).bind fun x h => metD m t a (asTup x) h else .bad
  | .isi a ts, σ, h => (evalE a σ h).bind fun x h => if known h x && ts.all Ty.isB then .ok (.bl (ts.any fun t => t.has h x)) h else .bad
  | .attr o f, σ, h => (evalE o σ h).bind fun a h => R.opt (attrD h a f) h
  | .exf i f, σ, h => (R.opt (exOf h σ[i]?) h).bind fun e h => R.opt (((e.1.fs.map Str.ofString).zip e.2).lookup f) h
  | .ise i cs, σ, h => (R.opt (exOf h σ[i]?) h).bind fun e h => .ok (.bl (cs.any fun d => e.1.sub d)) h
  | .sub o i, σ, h => (evalE o σ h).bind fun a h => (evalE i σ h).bind fun x h => R.opt (subD h a x) h
  | .sli m o lo hi, σ, h => (evalE o σ h).bind fun a h => (bdR lo.isKn (evalE lo σ h)).bind fun x h => (bdR hi.isKn (evalE hi σ h)).bind fun y h => sliD m a x y h
  | .rev m o, σ, h => (evalE o σ h).bind fun a h => revD m a h
  | .fst es, σ, h => (evalE es σ h).bind fun x h => (R.opt (fstL (asTup x)) h).bind fun l h => if joinLen Str.empty l ≤ sizeL then .ok (.str (Str.join Str.empty l)) h else .bad
  | .lc m e t it cd, σ, h => (evalE it σ h).bind fun s h => (R.opt (srcOf h s) h).bind fun s h =>
    (compS (turn t (clr σ t.slots) fun σ h => iff (evalE cd σ h) fun h => one (evalE e σ h)) s h).calm.bind fun l h => mkL m l h
  | .lc2 m e t it cd t' it' cd', σ, h => (evalE it σ h).bind fun s h => (R.opt (srcOf h s) h).bind fun s h =>
    (compS (turn t (clr σ (t.slots ++ t'.slots)) fun σ h => iff (evalE cd σ h) fun h => (evalE it' σ h).bind fun s h => (R.opt (srcOf h s) h).bind fun s h =>
      compS (turn t' σ fun σ h => iff (evalE cd' σ h) fun h => one (evalE e σ h)) s h) s h).calm.bind fun l h => mkL m l h
  | .dc m k v t it, σ, h => (evalE it σ h).bind fun s h => (R.opt (srcOf h s) h).bind fun s h =>
    (compS (turn t (clr σ t.slots) fun σ h => pairOf (evalE k σ h) fun h => evalE v σ h) s h).calm.bind fun l h => (R.opt (pairsOf l) h).bind fun l h => mkD m (dictOf l) h
  | .dc2 m k v t it t' it', σ, h => (evalE it σ h).bind fun s h => (R.opt (srcOf h s) h).bind fun s h =>
    (compS (turn t (clr σ (t.slots ++ t'.slots)) fun σ h => (evalE it' σ h).bind fun s h => (R.opt (srcOf h s) h).bind fun s h =>
      compS (turn t' σ fun σ h => pairOf (evalE k σ h) fun h => evalE v σ h) s h) s h).calm.bind fun l h => (R.opt (pairsOf l) h).bind fun l h => mkD m (dictOf l) h
  | .sc e t it, σ, h => (evalE it σ h).bind fun s h => (R.opt (srcOf h s) h).bind fun s h =>
    (compS (turn t (clr σ t.slots) fun σ h => one (evalE e σ h)) s h).calm.bind fun l h => if l.all D.key then .ok (.set (setOf l)) h else .bad
  | .listr m a, σ, h => (evalE a σ h).bind fun x h => mkL m (asTup x) h
  | .rng es, σ, h => (evalE es σ h).bind fun x h => (R.opt (rngD (asTup x)) h).bind fun l h => if l.length ≤ sizeL then .ok (.tup l) h else .bad
  | .enum a, σ, h => (evalE a σ h).bind fun x h => match x with
    | .tup l => .ok (.tup (enumL 0 l)) h
    | .lst l => .ok (.tup (enumL 0 l)) h
    | _ => .bad
  | .zip st a b, σ, h => (evalE a σ h).bind fun x h => (evalE b σ h).bind fun y h => if st then .bad else zipD x y h
  | .items a, σ, h => (evalE a σ h).bind fun x h => match x with
    | .dct l => .ok (.tup (l.map fun p => .tup [p.1, p.2])) h
    | _ => .bad
  | .values a, σ, h => (evalE a σ h).bind fun x h => match x with
    | .dct l => .ok (.tup (l.map fun p => p.2)) h
    | _ => .bad
  | .revr a, σ, h => (evalE a σ h).bind fun x h => .ok (.tup (asTup x).reverse) h
  | .frz a, σ, h => (evalE a σ h).bind fun x h => match x with
    | .ref n => match h[n]? with
      | some (.lst l) => .ok (.lst l) (h.set n .dead)
      | some (.dct l) => .ok (.dct l) (h.set n .dead)
      | _ => .bad
    | x => .ok x h
end

/-- what a statement ends in -/
inductive Fl where
  | nx (σ : Sl) (h : Hh) | rt (d : D) (h : Hh) | bk (σ : Sl) (h : Hh) | ct (σ : Sl) (h : Hh) | ex (c : EC) (l : List D) (σ : Sl) (h : Hh) | bad
def Fl.then (f : Fl) (g : Sl → Hh → Fl) : Fl := match f with
  | .nx σ h => g σ h
  | f => f
def R.go {α : Type} (r : R α) (σ : Sl) (g : α → Hh → Fl) : Fl := match r with
  | .ok a h => g a h
  | .ex c l h => .ex c l σ h
  | .bad => .bad
@[simp] theorem Fl.then_nx (σ : Sl) (h : Hh) (g : Sl → Hh → Fl) : (Fl.nx σ h).then g = g σ h := rfl
@[simp] theorem Fl.then_rt (d : D) (h : Hh) (g : Sl → Hh → Fl) : (Fl.rt d h).then g = .rt d h := rfl
@[simp] theorem Fl.then_bk (σ : Sl) (h : Hh) (g : Sl → Hh → Fl) : (Fl.bk σ h).then g = .bk σ h := rfl
@[simp] theorem Fl.then_ct (σ : Sl) (h : Hh) (g : Sl → Hh → Fl) : (Fl.ct σ h).then g = .ct σ h := rfl
@[simp] theorem Fl.then_ex (c : EC) (l : List D) (σ : Sl) (h : Hh) (g : Sl → Hh → Fl) : (Fl.ex c l σ h).then g = .ex c l σ h := rfl
@[simp] theorem Fl.then_bad (g : Sl → Hh → Fl) : (Fl.bad).then g = .bad := rfl
@[simp] theorem R.go_ok {α : Type} (a : α) (h : Hh) (σ : Sl) (g : α → Hh → Fl) : (R.ok a h).go σ g = g a h := rfl
@[simp] theorem R.go_ex {α : Type} (c : EC) (l : List D) (h : Hh) (σ : Sl) (g : α → Hh → Fl) : (R.ex c l h : R α).go σ g = .ex c l σ h := rfl
@[simp] theorem R.go_bad {α : Type} (σ : Sl) (g : α → Hh → Fl) : (R.bad : R α).go σ g = .bad := rfl
/-- a loop's turn has ended -/
def Fl.turn (f : Fl) (g : Sl → Hh → Fl) : Fl := match f with
  | .nx σ h => g σ h
  | .ct σ h => g σ h
  | .bk σ h => .nx σ h
  | f => f
@[simp] theorem Fl.turn_nx (σ : Sl) (h : Hh) (g : Sl → Hh → Fl) : (Fl.nx σ h).turn g = g σ h := rfl
@[simp] theorem Fl.turn_ct (σ : Sl) (h : Hh) (g : Sl → Hh → Fl) : (Fl.ct σ h).turn g = g σ h := rfl
@[simp] theorem Fl.turn_bk (σ : Sl) (h : Hh) (g : Sl → Hh → Fl) : (Fl.bk σ h).turn g = .nx σ h := rfl
@[simp] theorem Fl.turn_rt (d : D) (h : Hh) (g : Sl → Hh → Fl) : (Fl.rt d h).turn g = .rt d h := rfl
@[simp] theorem Fl.turn_ex (c : EC) (l : List D) (σ : Sl) (h : Hh) (g : Sl → Hh → Fl) : (Fl.ex c l σ h).turn g = .ex c l σ h := rfl
@[simp] theorem Fl.turn_bad (g : Sl → Hh → Fl) : (Fl.bad).turn g = .bad := rfl
def forL (t : Tg) (b : Sl → Hh → Fl) : List D → Sl → Hh → Fl
  | [], σ, h => .nx σ h
  | d :: r, σ, h => match setT t d σ h with
    | none => .bad
    | some σ => (b σ h).turn fun σ h => forL t b r σ h
def forV (t : Tg) (b : Sl → Hh → Fl) (n : Nat) : Nat → Nat → Sl → Hh → Fl
  | 0, _, _, _ => .bad
  | k + 1, i, σ, h => match h[n]? with
    | some (.lst l) => match l[i]? with
      | none => .nx σ h
      | some d => match setT t d σ h with
        | none => .bad
        | some σ => (b σ h).turn fun σ h => forV t b n k (i + 1) σ h
    | _ => .bad
def forS (t : Tg) (b : Sl → Hh → Fl) (s : Src) (σ : Sl) (h : Hh) : Fl := match s with
  | .its l => forL t b l σ h
  | .live n => forV t b n turns 0 σ h
def whileN (e : Sl → Hh → R Bool) (b : Sl → Hh → Fl) : Nat → Sl → Hh → Fl
  | 0, _, _ => .bad
  | k + 1, σ, h => (e σ h).go σ fun x h => if x then (b σ h).turn fun σ h => whileN e b k σ h else .nx σ h
section
variable (c : Cl)
def evalT (e : Ex) (σ : Sl) (h : Hh) : R Bool := (evalE c e σ h).bind fun x h => R.opt (truthy h x) h
def evalL (e : Ex) (σ : Sl) (h : Hh) : R (List D) := (evalE c e σ h).bind fun x h => .ok (asTup x) h
/-- behind an except clause's suite: the name is forgotten, the error goes -/
def unas (i n : Nat) (f : Fl) : Fl := match f with
  | .nx σ h => .nx (σ.set i none) (h.set n .dead)
  | .bk σ h => .bk (σ.set i none) (h.set n .dead)
  | .ct σ h => .ct (σ.set i none) (h.set n .dead)
  | .rt d h => .rt d (h.set n .dead)
  | _ => .bad
/-- a suite raises nothing -/
def calmF (f : Fl) : Fl := match f with
  | .ex _ _ _ _ => .bad
  | f => f
/-- a statement; cur: the error in hand -/
def exec : St → Option (EC × List D) → Sl → Hh → Fl
  | .nil, _, σ, h => .nx σ h
  | .cons s r, cur, σ, h => (exec s cur σ h).then fun σ h => exec r cur σ h
  | .asg t e, _, σ, h => (evalE c e σ h).go σ fun x h => match setT t x σ h with
    | none => .bad
    | some σ => .nx σ h
  | .asgA o f e, _, σ, h => (evalE c e σ h).go σ fun x h => (evalE c o σ h).go σ fun a h => (setA a f x h).go σ fun _ h => .nx σ h
  | .asgS o i e, _, σ, h => (evalE c e σ h).go σ fun x h => (evalE c o σ h).go σ fun a h => (evalE c i σ h).go σ fun k h => (putD a k x h).go σ fun _ h => .nx σ h
  | .asgSS o i o' i' e e', _, σ, h => (evalE c e σ h).go σ fun x h => (evalE c e' σ h).go σ fun y h =>
    (evalE c o σ h).go σ fun a h => (evalE c i σ h).go σ fun k h => (putD a k x h).go σ fun _ h =>
    (evalE c o' σ h).go σ fun a h => (evalE c i' σ h).go σ fun k h => (putD a k y h).go σ fun _ h => .nx σ h
  | .asgSN o i n e e', _, σ, h => (evalE c e σ h).go σ fun x h => (evalE c e' σ h).go σ fun y h =>
    (evalE c o σ h).go σ fun a h => (evalE c i σ h).go σ fun k h => (putD a k x h).go σ fun _ h => .nx (σ.set n (some y)) h
  | .aug i o e, _, σ, h => match σ[i]? with
    | some (some (.int v)) => (evalE c e σ h).go σ fun x h => match x, o with
      | .int w, .add => .nx (σ.set i (some (.int (v + w)))) h
      | .int w, .sub => .nx (σ.set i (some (.int (v - w)))) h
      | _, _ => .bad
    | _ => .bad
  | .ex e, _, σ, h => (evalE c e σ h).go σ fun _ h => .nx σ h
  | .for_ t it b, cur, σ, h => (evalE c it σ h).go σ fun s h => (R.opt (srcOf h s) h).go σ fun s h => forS t (fun σ h => exec b cur σ h) s σ h
  | .while_ e b, cur, σ, h => whileN (fun σ h => evalT c e σ h) (fun σ h => exec b cur σ h) turns σ h
  | .if_ e a b, cur, σ, h => (evalT c e σ h).go σ fun k h => if k then exec a cur σ h else exec b cur σ h
  | .ret e, _, σ, h => (evalE c e σ h).go σ fun x h => .rt x h
  | .retN, _, _, h => .rt .non h
  | .raise _ k es, _, σ, h => (evalE c es σ h).go σ fun x h => if (asTup x).length = k.fs.length ∧ k.leaf = true then .ex k (asTup x) σ h else .bad
  | .again, cur, σ, h => match cur with
    | some (k, l) => .ex k l σ h
    | none => .bad
  | .try_ b hs, cur, σ, h => match exec b cur σ h with
    | .ex k l σ h => exec hs (some (k, l)) σ h
    | f => f
  | .fin b f, cur, σ, h => match exec b cur σ h with
    | .nx σ h => exec f cur σ h
    | .bk σ h => (exec f cur σ h).then fun σ h => .bk σ h
    | .ct σ h => (exec f cur σ h).then fun σ h => .ct σ h
    | .ex k l σ h => (exec f cur σ h).then fun σ h => .ex k l σ h
    | _ => .bad
  | .hnil, cur, σ, h => match cur with
    | some (k, l) => .ex k l σ h
    | none => .bad
  | .hcons cs n b r, cur, σ, h => match cur with
    | some (k, l) => if cs.any fun d => k.sub d then (match n with
      | some i => unas i h.length (exec b none (σ.set i (some (.ref h.length))) (h ++ [.exc k l]))
      | none => calmF (exec b none σ h)) else exec r cur σ h
    | none => .bad
  | .brk, _, σ, h => .bk σ h
  | .cnt, _, σ, h => .ct σ h
  | .pass, _, σ, h => .nx σ h
  | .frzv i, _, σ, h => match σ[i]? with
    | some (some (.ref n)) => match h[n]? with
      | some (.lst l) => .nx (σ.set i (some (.lst l))) (h.set n .dead)
      | some (.dct l) => .nx (σ.set i (some (.dct l))) (h.set n .dead)
      | _ => .nx σ h
    | _ => .nx σ h
end

/-- a def: its parameters, those by name alone with their defaults, the number of its slots, its body -/
structure Fn where
  ps : List Str
  ko : List (Str × D)
  ns : Nat
  body : St
def find (ks : List Str) (ws : List D) (x : Str) : Option D := (ks.zip ws).lookup x
def restA (ks : List Str) (ws : List D) : List Str → Option (List D)
  | [] => some []
  | x :: r => match find ks ws x, restA ks ws r with
    | some d, some l => some (d :: l)
    | _, _ => none
def bindA (f : Fn) (vs : List D) (ks : List Str) (ws : List D) : Option (List D) :=
  if vs.length ≤ f.ps.length then (restA ks ws (f.ps.drop vs.length)).map fun l => vs ++ l ++ f.ko.map fun p => (find ks ws p.1).getD p.2 else none
/-- what stood is as it was, or holds nothing new -/
def Keeps (h h' : Hh) : Prop := h.length ≤ h'.length ∧ ∀ i o, i < h.length → h'[i]? = some o → h[i]? = some o ∨ o.bel h.length = true
open Classical in
/-- a call's end: what the call made goes, where nothing that stays names it -/
noncomputable def leave (h : Hh) (f : Fl) : R D := match f with
  | .nx _ h' => if Keeps h h' then .ok .non (h'.take h.length) else .ok .non h'
  | .rt d h' => if Keeps h h' ∧ d.bel h.length = true then .ok d (h'.take h.length) else .ok d h'
  | .ex k l _ h' => if Keeps h h' ∧ D.belL h.length l = true then .ex k l (h'.take h.length) else .ex k l h'
  | _ => .bad
structure Tx where
  fn : Str → Option Fn
  gl : Str → Option D
noncomputable def run (T : Tx) : Nat → Str → List D → List Str → List D → Hh → R D
  | 0, _, _, _, _, _ => .bad
  | k + 1, f, vs, ks, ws, h => match T.fn f with
    | none => .bad
    | some fd => match bindA fd vs ks ws with
      | none => .bad
      | some as => leave h (exec ⟨run T k, T.gl⟩ fd.body none (as.map some ++ List.replicate (fd.ns - as.length) none) h)
noncomputable abbrev cl (T : Tx) (k : Nat) : Cl := ⟨run T k, T.gl⟩
end Dy
end

section
set_option linter.all false
set_option maxRecDepth 100000
set_option Elab.async false
/-! Dy, part B: how data and things lie in the layer's heap. -/
namespace Dy
open PySem PySem.Spec PyProof.Rows L2

/-- where classes stand -/
structure Ec where
  at_ : EC → Addr
  ok : EC → Bool
  hid : Option (Addr × Nat × Option Addr × EC)
structure Kx where
  K : PySem.W.Frag
  P : Program
  wd : World
  ca : Str → Addr
  ea : Ec
/-- a heap of the layer's with the addresses of our things; L: what must not be read as standing still -/
structure Wd where
  L : Addr → Prop
  m : List (Option Addr)
  H : Hp
/-- a tuple, a list that stands still: among the tracked ones, or of the module's own -/
def StT (K : PySem.W.Frag) (w : Wd) (a : Addr) (vs : List V) : Prop := (∃ o : Obj, o.dict = none ∧ w.H a = some (.frz o (.tup vs)) ∧ ¬ w.L a) ∨
  ∃ (o : Obj) (its : Array Value) (n : Nat), o.dict = none ∧ K.lookup a = some o ∧ o.cls = .type "tuple" ∧ o.data = .seq its n ∧ its.size ≤ sizeLine ∧ Vals vs its.toList
def StL (w : Wd) (a : Addr) (vs : List V) : Prop := w.H a = some (.lst vs) ∧ ¬ w.L a
def StS (K : PySem.W.Frag) (w : Wd) (a : Addr) (vs : List V) : Prop := (Rd w.H a (.lst vs) ∧ ¬ w.L a) ∨
  ∃ (o : Obj) (its : Array Value) (n : Nat), K.lookup a = some o ∧ o.cls = .type "list" ∧ o.dict = none ∧ o.data = .seq its n ∧ its.size ≤ sizeLine ∧ Vals vs its.toList
theorem StT.sq {K : PySem.W.Frag} {w : Wd} {a : Addr} {vs : List V} (h : StT K w a vs) : SqT K w.H a vs := h.imp (fun ⟨o, _, e, _⟩ => .inr ⟨o, e⟩) fun ⟨o, i, n, _, h⟩ => ⟨o, i, n, h⟩
theorem StL.sq {K : PySem.W.Frag} {w : Wd} {a : Addr} {vs : List V} (h : StL w a vs) : SqL K w.H a vs := SqL.of h.1
theorem StS.sq {K : PySem.W.Frag} {w : Wd} {a : Addr} {vs : List V} (h : StS K w a vs) : SqL K w.H a vs := h.imp (·.1) id
/-- a key that is an int or a text -/
def keyD : Key → D
  | .inl i => .int i
  | .inr s => .str s
mutual
/-- a key of any depth -/
def D.nk : D → NestedKey
  | .non => .none
  | .bl b => .num (if b then 1 else 0)
  | .int i => .num i
  | .str s => .text s
  | .tup l => .tup (D.nkL l)
  | .lst _ => .none
  | .dct _ => .none
  | .set _ => .none
  | .ref _ => .none
  | .exc _ _ => .none
  | .scr _ => .none
  | .pr _ _ => .none
def D.nkL : List D → List NestedKey
  | [] => []
  | d :: r => D.nk d :: D.nkL r
end
/-- a dict with tuple keys at a -/
def DnAt (P : Program) (wd : World) (a : Addr) (ps : List (NestedKey × Addr × V)) (h : Heap) : Prop := ps.length ≤ sizeLine ∧ (a == sysModules) = false ∧
  ∃ xs : List (NestedKey × Addr × Value), Paired (fun p q => p.1 = q.1 ∧ p.2.1 = q.2.1 ∧ RelV p.2.2 q.2.2) ps xs ∧
    ∃ o es ep, h.get? a = some o ∧ o.ExactDict ∧ o.data = .dict es ep ∧ es.toList = xs.map (entryOfKey (nestedKind P wd)) ∧ (xs.map (·.1)).Nodup
def dN (P : Program) (wd : World) (a : Addr) (ps : List (NestedKey × Addr × V)) : HO := .ext (DnAt P wd a ps)
section
variable (k : Kx) (w : Wd)
mutual
/-- v stands for d -/
def Rep : D → V → Prop
  | .non, v => v = .non
  | .bl b, v => v = .bl b
  | .int i, v => v = .int i
  | .str s, v => v = .str s ∧ sOk s = true
  | .tup l, v => ∃ a vs, v = .ref a ∧ StT k.K w a vs ∧ RepL l vs
  | .lst l, v => ∃ a vs, v = .ref a ∧ StL w a vs ∧ RepL l vs
  | .dct l, v => ∃ a o, v = .ref a ∧ (w.H a = some o ∧ ¬ w.L a) ∧ ((∃ kvs, o = .dK kvs ∧ RepP l kvs) ∨ ∃ ps, o = dN k.P k.wd a ps ∧ l ≠ [] ∧ RepQ l ps)
  | .set _, _ => False
  | .ref n, v => n < w.m.length ∧ ∃ a, v = .ref a ∧ (∀ b, w.m[n]? = some (some b) → b = a) ∧ ∀ b dd, k.ea.hid = some (b, n, dd) → b = a
  | .exc _ _, _ => False
  | .scr l, v => ∃ a, v = .ref a ∧ StS k.K w a (l.map V.int)
  | .pr a b, v => ∃ p x y, v = .ref p ∧ (Rd w.H p (.tup [x, y]) ∧ ¬ w.L p) ∧ Rep a x ∧ Rep b y
def RepL : List D → List V → Prop
  | [], vs => vs = []
  | d :: r, vs => ∃ v vr, vs = v :: vr ∧ Rep d v ∧ RepL r vr
/-- a dict's items, its keys ints and texts -/
def RepP : List (D × D) → List (Key × V) → Prop
  | [], kvs => kvs = []
  | (kd, d) :: r, kvs => ∃ key v vr, kvs = (key, v) :: vr ∧ kd = keyD key ∧ Rep kd (kV key) ∧ Rep d v ∧ RepP r vr
/-- a dict's items, its keys tuples -/
def RepQ : List (D × D) → List (NestedKey × Addr × V) → Prop
  | [], ps => ps = []
  | (kd, d) :: r, ps => ∃ b v pr, ps = (kd.nk, b, v) :: pr ∧ (kd.isTup && kd.key) = true ∧ Rep kd (.ref b) ∧ Rep d v ∧ RepQ r pr
end
/-- what stands at a dict's place -/
def RepD (a : Addr) (l : List (D × D)) (o : HO) : Prop := (∃ kvs, o = .dK kvs ∧ RepP k w l kvs) ∨ ∃ ps, o = dN k.P k.wd a ps ∧ l ≠ [] ∧ RepQ k w l ps
/-- an instance's attributes -/
def RepF : List (Str × D) → List (Str × V) → Prop
  | [], fs => fs = []
  | (x, d) :: r, fs => ∃ v vr, fs = (x, v) :: vr ∧ Rep k w d v ∧ RepF r vr
def RepO (a : Addr) : Ob → Prop
  | .lst l => ∃ vs, w.H a = some (.lst vs) ∧ RepL k w l vs
  | .dct l => ∃ o, w.H a = some o ∧ RepD k w a l o
  | .ins c fs => ∃ dx vf, w.H a = some (.ins (k.ca c) dx vf) ∧ RepF k w fs vf
  | .dead => True
  | .exc _ _ => False
/-- an exception of ours: its class, its own dict -/
def ExR (c : EC) (l : List D) (u : Value) (dd : Option Addr) : Prop :=
  ((u = .ref (k.ea.at_ c) ∧ k.ea.ok c = true) ∧ (c.fs = [] → dd = none)) ∧ l.length = c.fs.length ∧ (c.fs ≠ [] → ∃ dx vf, dd = some dx ∧ w.H dx = some (.xd vf) ∧ ¬ w.L dx ∧
    ∀ (i : Nat) (f : String) d, c.fs[i]? = some f → l[i]? = some d → ∃ v, vf.lookup (Str.ofString f) = some v ∧ Rep k w d v)
/-- the heap h stands in w -/
structure WR (h : Hh) : Prop where
  len : w.m.length = h.length
  obs : ∀ (i : Nat) o a, h[i]? = some o → w.m[i]? = some (some a) → RepO k w a o
  dead : ∀ (i : Nat) o a, h[i]? = some o → o.live = false → w.m[i]? ≠ some (some a)
  alive : ∀ (i : Nat) o, h[i]? = some o → o.live = true → ∃ a, w.m[i]? = some (some a)
  inj : ∀ (i j : Nat) a, w.m[i]? = some (some a) → w.m[j]? = some (some a) → i = j
  live : ∀ (i : Nat) a, w.m[i]? = some (some a) → w.L a
  trk : ∀ a, w.L a → ∃ o, w.H a = some o
  exc : ∀ (i : Nat) c l, h[i]? = some (.exc c l) → ∃ a dd, k.ea.hid = some (a, i, dd, c) ∧ ExR k w c l (.ref (k.ea.at_ c)) dd
  hid : ∀ a (i : Nat) dd, k.ea.hid = some (a, i, dd) → i < h.length
/-- slots -/
def Sr (σ : Sl) (σV : L2.St) : Prop := σ.length ≤ σV.length ∧ ∀ (i : Nat) d, σ[i]? = some (some d) → ∃ v, σV[i]? = some (some v) ∧ Rep k w d v
end
/-- w' follows w -/
structure Wd.le (w w' : Wd) : Prop where
  len : w.m.length ≤ w'.m.length
  old : ∀ (i : Nat) a, i < w.m.length → w'.m[i]? = some (some a) → w.m[i]? = some (some a)
  new : ∀ (i : Nat) a, w.m.length ≤ i → w'.m[i]? = some (some a) → w.H a = none
  L : ∀ a, w'.L a → w.L a ∨ w.H a = none
  keep : ∀ a o, w.H a = some o → (∀ (i : Nat), w.m[i]? ≠ some (some a)) → w'.H a = some o
  trk : ∀ a o, w.H a = some o → ∃ o', w'.H a = some o'
  live : ∀ (i : Nat) a, w.m[i]? = some (some a) → w.L a
  hold : ∀ a o, w.L a → w.H a = some o → (∀ (i : Nat), w.m[i]? ≠ some (some a)) → w'.L a
namespace Wd.le
theorem refl {w : Wd} (hl : ∀ (i : Nat) a, w.m[i]? = some (some a) → w.L a) : w.le w :=
  ⟨Nat.le_refl _, fun _ _ _ h => h, fun i a h e => (by rw [List.getElem?_eq_none h] at e; cases e), fun _ h => .inl h, fun _ _ h _ => h, fun _ o h => ⟨o, h⟩, hl, fun _ _ h _ _ => h⟩
theorem trans {a b c : Wd} (x : a.le b) (y : b.le c) : a.le c where
  len := Nat.le_trans x.len y.len
  old := fun i d hi h => x.old i d hi (y.old i d (Nat.lt_of_lt_of_le hi x.len) h)
  new := fun i d hi h => by
    by_cases hb : i < b.m.length
    · exact x.new i d hi (y.old i d hb h)
    · have q := y.new i d (Nat.le_of_not_lt hb) h
      cases e : a.H d with
      | none => rfl
      | some o => obtain ⟨o', e'⟩ := x.trk d o e; rw [q] at e'; cases e'
  L := fun d h => by
    rcases y.L d h with h | h
    · exact x.L d h
    · cases e : a.H d with
      | none => exact .inr rfl
      | some o => obtain ⟨o', e'⟩ := x.trk d o e; rw [h] at e'; cases e'
  keep := fun d o h n => y.keep d o (x.keep d o h n) fun i hi => by
    by_cases hb : i < a.m.length
    · exact n i (x.old i d hb hi)
    · have := x.new i d (Nat.le_of_not_lt hb) hi
      rw [h] at this; cases this
  trk := fun d o h => by obtain ⟨o', e⟩ := x.trk d o h; exact y.trk d o' e
  live := x.live
  hold := fun d o h e n => y.hold d o (x.hold d o h e n) (x.keep d o e n) fun i hi => by
    by_cases hb : i < a.m.length
    · exact n i (x.old i d hb hi)
    · have := x.new i d (Nat.le_of_not_lt hb) hi
      rw [e] at this; cases this
theorem st {w w' : Wd} (x : w.le w') {a : Addr} {u : HO} (h : w.H a = some u ∧ ¬ w.L a) : w'.H a = some u ∧ ¬ w'.L a := by
  obtain ⟨h, n⟩ := h
  refine ⟨x.keep a _ h fun i e => n (x.live i a e), fun z => ?_⟩
  rcases x.L a z with q | q
  · exact n q
  · rw [h] at q; cases q
theorem rd {w w' : Wd} (x : w.le w') {a : Addr} {u : HO} (h : Rd w.H a u ∧ ¬ w.L a) : Rd w'.H a u ∧ ¬ w'.L a := by
  obtain ⟨h, n⟩ := h
  have nl : ∀ (i : Nat), w.m[i]? ≠ some (some a) := fun i e => n (x.live i a e)
  have n' : ∀ o, w.H a = some o → ¬ w'.L a := fun o e z => by
    rcases x.L a z with q | q
    · exact n q
    · rw [e] at q; cases q
  rcases h with h | ⟨o, h⟩
  · exact ⟨.inl (x.keep a _ h nl), n' _ h⟩
  · exact ⟨.inr ⟨o, x.keep a _ h nl⟩, n' _ h⟩
end Wd.le
/-- what stands still in w does so in w' -/
structure Wd.li (w w' : Wd) : Prop where
  len : w.m.length ≤ w'.m.length
  old : ∀ (i : Nat) a, i < w.m.length → w'.m[i]? = some (some a) → w.m[i]? = some (some a)
  rd : ∀ a u, Rd w.H a u ∧ ¬ w.L a → Rd w'.H a u ∧ ¬ w'.L a
  st : ∀ a u, w.H a = some u ∧ ¬ w.L a → w'.H a = some u ∧ ¬ w'.L a
theorem Wd.le.li {w w' : Wd} (x : w.le w') : w.li w' := ⟨x.len, x.old, fun _ _ h => x.rd h, fun _ _ h => x.st h⟩
theorem Wd.li.trans {a b c : Wd} (x : a.li b) (y : b.li c) : a.li c :=
  ⟨Nat.le_trans x.len y.len, fun i d hi h => x.old i d hi (y.old i d (Nat.lt_of_lt_of_le hi x.len) h), fun d u h => y.rd d u (x.rd d u h), fun d u h => y.st d u (x.st d u h)⟩
theorem StT.mono {K : PySem.W.Frag} {w w' : Wd} {a : Addr} {vs : List V} (h : StT K w a vs) (x : w.li w') : StT K w' a vs := h.imp (fun ⟨o, e1, e2⟩ => ⟨o, e1, x.st _ _ e2⟩) id
theorem StL.mono {w w' : Wd} {a : Addr} {vs : List V} (h : StL w a vs) (x : w.li w') : StL w' a vs := x.st _ _ h
theorem StS.mono {K : PySem.W.Frag} {w w' : Wd} {a : Addr} {vs : List V} (h : StS K w a vs) (x : w.li w') : StS K w' a vs := h.imp (x.rd _ _ ·) id
mutual
theorem Rep.mono {k : Kx} {w w' : Wd} (x : w.li w') : ∀ (d : D) (v : V), Rep k w d v → Rep k w' d v
  | .non, v, h => h
  | .bl _, v, h => h
  | .int _, v, h => h
  | .str _, v, h => h
  | .tup l, v, h => by
    simp only [Rep] at h ⊢
    obtain ⟨a, vs, e, s, r⟩ := h
    exact ⟨a, vs, e, s.mono x, RepL.mono x l vs r⟩
  | .lst l, v, h => by
    simp only [Rep] at h ⊢
    obtain ⟨a, vs, e, s, r⟩ := h
    exact ⟨a, vs, e, s.mono x, RepL.mono x l vs r⟩
  | .dct l, v, h => by
    simp only [Rep] at h ⊢
    obtain ⟨a, o, e, s, r⟩ := h
    exact ⟨a, o, e, x.st _ _ s, r.imp (fun ⟨kvs, e, r⟩ => ⟨kvs, e, RepP.mono x l kvs r⟩) fun ⟨ps, e, ne, r⟩ => ⟨ps, e, ne, RepQ.mono x l ps r⟩⟩
  | .set _, v, h => h
  | .ref n, v, h => by
    simp only [Rep] at h ⊢
    obtain ⟨hl, a, e, q, q2⟩ := h
    exact ⟨Nat.lt_of_lt_of_le hl x.len, a, e, fun b hb => q b (x.old n b hl hb), q2⟩
  | .exc _ _, v, h => h
  | .scr l, v, h => by
    simp only [Rep] at h ⊢
    obtain ⟨a, e, s⟩ := h
    exact ⟨a, e, s.mono x⟩
  | .pr a b, v, h => by
    simp only [Rep] at h ⊢
    obtain ⟨p, y, z, e, s, ra, rb⟩ := h
    exact ⟨p, y, z, e, x.rd _ _ s, Rep.mono x a y ra, Rep.mono x b z rb⟩
theorem RepL.mono {k : Kx} {w w' : Wd} (x : w.li w') : ∀ (l : List D) (vs : List V), RepL k w l vs → RepL k w' l vs
  | [], vs, h => h
  | d :: r, vs, h => by
    simp only [RepL] at h ⊢
    obtain ⟨v, vr, e, h1, h2⟩ := h
    exact ⟨v, vr, e, Rep.mono x d v h1, RepL.mono x r vr h2⟩
theorem RepP.mono {k : Kx} {w w' : Wd} (x : w.li w') : ∀ (l : List (D × D)) (kvs : List (Key × V)), RepP k w l kvs → RepP k w' l kvs
  | [], kvs, h => h
  | (kd, d) :: r, kvs, h => by
    simp only [RepP] at h ⊢
    obtain ⟨key, v, vr, e, e2, h0, h1, h2⟩ := h
    exact ⟨key, v, vr, e, e2, Rep.mono x kd _ h0, Rep.mono x d v h1, RepP.mono x r vr h2⟩
theorem RepQ.mono {k : Kx} {w w' : Wd} (x : w.li w') : ∀ (l : List (D × D)) (ps : List (NestedKey × Addr × V)), RepQ k w l ps → RepQ k w' l ps
  | [], ps, h => h
  | (kd, d) :: r, ps, h => by
    simp only [RepQ] at h ⊢
    obtain ⟨b, v, pr, e, e2, h0, h1, h2⟩ := h
    exact ⟨b, v, pr, e, e2, Rep.mono x kd _ h0, Rep.mono x d v h1, RepQ.mono x r pr h2⟩
end
theorem RepD.mono {k : Kx} {w w' : Wd} (x : w.li w') {a : Addr} {l : List (D × D)} {o : HO} (h : RepD k w a l o) : RepD k w' a l o :=
  h.imp (fun ⟨kvs, e, r⟩ => ⟨kvs, e, RepP.mono x l kvs r⟩) fun ⟨ps, e, ne, r⟩ => ⟨ps, e, ne, RepQ.mono x l ps r⟩
theorem ExR.mono {k : Kx} {w w' : Wd} {c : EC} {l : List D} {u : Value} {dd : Option Addr} (h : ExR k w c l u dd) (x : w.li w') : ExR k w' c l u dd := by
  obtain ⟨h1, h2, h3⟩ := h
  refine ⟨h1, h2, fun ne => ?_⟩
  obtain ⟨dx, vf, e, q, n, f⟩ := h3 ne
  have := x.st dx _ ⟨q, n⟩
  refine ⟨dx, vf, e, this.1, this.2, fun i g d e1 e2 => ?_⟩
  obtain ⟨v, y, z⟩ := f i g d e1 e2
  exact ⟨v, y, Rep.mono x d v z⟩
theorem RepF.mono {k : Kx} {w w' : Wd} (x : w.li w') : ∀ (l : List (Str × D)) (fs : List (Str × V)), RepF k w l fs → RepF k w' l fs
  | [], fs, h => h
  | (f, d) :: r, fs, h => by
    simp only [RepF] at h ⊢
    obtain ⟨v, vr, e, h1, h2⟩ := h
    exact ⟨v, vr, e, Rep.mono x d v h1, RepF.mono x r vr h2⟩
theorem Sr.mono {k : Kx} {w w' : Wd} {σ : Sl} {σV : L2.St} (h : Sr k w σ σV) (x : w.li w') : Sr k w' σ σV := ⟨h.1, fun i d e => by
  obtain ⟨v, h1, h2⟩ := h.2 i d e
  exact ⟨v, h1, Rep.mono x d v h2⟩⟩
theorem RepO.mono {k : Kx} {w w' : Wd} {a : Addr} {b : Ob} (x : w.li w') (r : RepO k w a b) (e : w'.H a = w.H a) : RepO k w' a b := by
  cases b with
  | lst l => obtain ⟨vs, h1, h2⟩ := r; exact ⟨vs, e.trans h1, RepL.mono x l vs h2⟩
  | dct l => obtain ⟨o, h1, h2⟩ := r; exact ⟨o, e.trans h1, h2.mono x⟩
  | ins c fs => obtain ⟨dx, vf, h1, h2⟩ := r; exact ⟨dx, vf, e.trans h1, RepF.mono x fs vf h2⟩
  | dead => trivial
  | exc c l => exact r
mutual
theorem Rep.bel {k : Kx} {w : Wd} : ∀ (d : D) (v : V), Rep k w d v → d.bel w.m.length = true
  | .non, v, h => rfl
  | .bl _, v, h => rfl
  | .int _, v, h => rfl
  | .str _, v, h => rfl
  | .tup l, v, h => by
    simp only [Rep] at h
    obtain ⟨a, vs, e, s, r⟩ := h
    simp only [D.bel]; exact RepL.bel l vs r
  | .lst l, v, h => by
    simp only [Rep] at h
    obtain ⟨a, vs, e, s, r⟩ := h
    simp only [D.bel]; exact RepL.bel l vs r
  | .dct l, v, h => by
    simp only [Rep] at h
    obtain ⟨a, o, e, s, r⟩ := h
    simp only [D.bel]
    rcases r with ⟨kvs, _, r⟩ | ⟨ps, _, _, r⟩
    · exact RepP.bel l kvs r
    · exact RepQ.bel l ps r
  | .set _, v, h => by simp only [Rep] at h
  | .ref n, v, h => by
    simp only [Rep] at h
    simp only [D.bel]; exact decide_eq_true h.1
  | .exc _ _, v, h => by simp only [Rep] at h
  | .scr _, v, h => rfl
  | .pr a b, v, h => by
    simp only [Rep] at h
    obtain ⟨p, y, z, e, s, ra, rb⟩ := h
    simp only [D.bel, Bool.and_eq_true]
    exact ⟨Rep.bel a y ra, Rep.bel b z rb⟩
theorem RepL.bel {k : Kx} {w : Wd} : ∀ (l : List D) (vs : List V), RepL k w l vs → D.belL w.m.length l = true
  | [], vs, h => rfl
  | d :: r, vs, h => by
    simp only [RepL] at h
    obtain ⟨v, vr, e, h1, h2⟩ := h
    simp only [D.belL, Bool.and_eq_true]
    exact ⟨Rep.bel d v h1, RepL.bel r vr h2⟩
theorem RepP.bel {k : Kx} {w : Wd} : ∀ (l : List (D × D)) (kvs : List (Key × V)), RepP k w l kvs → D.belP w.m.length l = true
  | [], kvs, h => rfl
  | (kd, d) :: r, kvs, h => by
    simp only [RepP] at h
    obtain ⟨key, v, vr, e, e2, h0, h1, h2⟩ := h
    simp only [D.belP, Bool.and_eq_true]
    exact ⟨⟨Rep.bel kd _ h0, Rep.bel d v h1⟩, RepP.bel r vr h2⟩
theorem RepQ.bel {k : Kx} {w : Wd} : ∀ (l : List (D × D)) (ps : List (NestedKey × Addr × V)), RepQ k w l ps → D.belP w.m.length l = true
  | [], ps, h => rfl
  | (kd, d) :: r, ps, h => by
    simp only [RepQ] at h
    obtain ⟨b, v, pr, e, e2, h0, h1, h2⟩ := h
    simp only [D.belP, Bool.and_eq_true]
    exact ⟨⟨Rep.bel kd _ h0, Rep.bel d v h1⟩, RepQ.bel r pr h2⟩
end
theorem RepF.bel {k : Kx} {w : Wd} : ∀ (l : List (Str × D)) (fs : List (Str × V)), RepF k w l fs → (l.all fun p => p.2.bel w.m.length) = true
  | [], fs, h => rfl
  | (f, d) :: r, fs, h => by
    simp only [RepF] at h
    obtain ⟨v, vr, e, h1, h2⟩ := h
    simp only [List.all_cons, Bool.and_eq_true]
    exact ⟨Rep.bel d v h1, RepF.bel r vr h2⟩
theorem RepO.bel {k : Kx} {w : Wd} {a : Addr} {o : Ob} (h : RepO k w a o) : o.bel w.m.length = true := by
  cases o with
  | lst l => obtain ⟨vs, _, h2⟩ := h; exact RepL.bel l vs h2
  | dct l =>
    obtain ⟨o, _, h2⟩ := h
    rcases h2 with ⟨kvs, _, r⟩ | ⟨ps, _, _, r⟩
    · exact RepP.bel l kvs r
    · exact RepQ.bel l ps r
  | ins c fs => obtain ⟨dx, vf, _, h2⟩ := h; exact RepF.bel fs vf h2
  | dead => rfl
  | exc c l => exact False.elim h
theorem belL_of {n : Nat} : ∀ {l : List D}, (∀ (i : Nat) d, l[i]? = some d → d.bel n = true) → D.belL n l = true
  | [], _ => rfl
  | d :: r, h => by
    simp only [D.belL, Bool.and_eq_true]
    exact ⟨h 0 d rfl, belL_of fun i e he => h (i + 1) e he⟩
theorem ExR.bel {k : Kx} {w : Wd} {c : EC} {l : List D} {u : Value} {dd : Option Addr} (h : ExR k w c l u dd) : D.belL w.m.length l = true := by
  obtain ⟨h1, h2, h3⟩ := h
  refine belL_of fun i d e => ?_
  have hi : i < c.fs.length := by rw [← h2]; exact (List.getElem?_eq_some_iff.mp e).1
  obtain ⟨dx, vf, e1, q, n, f⟩ := h3 (fun z => by rw [z] at hi; simp at hi)
  obtain ⟨v, y, z⟩ := f i c.fs[i] d (List.getElem?_eq_getElem hi) e
  exact Rep.bel d v z
theorem belL_get {n : Nat} : ∀ {l : List D} {i : Nat} {d : D}, D.belL n l = true → l[i]? = some d → d.bel n = true
  | [], _, _, _, e => by simp at e
  | a :: l, 0, d, hb, e => by
    simp only [D.belL, Bool.and_eq_true] at hb
    simp at e; subst e; exact hb.1
  | a :: l, i + 1, d, hb, e => by
    simp only [D.belL, Bool.and_eq_true] at hb
    exact belL_get hb.2 (by simpa using e)
/-- all but the first n things go -/
def Wd.cut (w : Wd) (n : Nat) : Wd := ⟨fun a => w.L a ∧ ∀ (i : Nat), n ≤ i → w.m[i]? ≠ some (some a), w.m.take n, w.H⟩
theorem cut_rd {w : Wd} {n : Nat} {a : Addr} {u : HO} (h : Rd w.H a u ∧ ¬ w.L a) : Rd (w.cut n).H a u ∧ ¬ (w.cut n).L a := ⟨h.1, fun z => h.2 z.1⟩
theorem cut_get {w : Wd} {n i : Nat} {a : Addr} (h : (w.cut n).m[i]? = some (some a)) : i < n ∧ w.m[i]? = some (some a) := by
  have h : (w.m.take n)[i]? = some (some a) := h
  rw [List.getElem?_take] at h
  split at h
  · exact ⟨by assumption, h⟩
  · cases h
mutual
theorem Rep.cut {k : Kx} {w : Wd} {n : Nat} (hn : n ≤ w.m.length) : ∀ (d : D) (v : V), Rep k w d v → d.bel n = true → Rep k (w.cut n) d v
  | .non, v, h, _ => h
  | .bl _, v, h, _ => h
  | .int _, v, h, _ => h
  | .str _, v, h, _ => h
  | .tup l, v, h, b => by
    simp only [Rep] at h ⊢
    simp only [D.bel] at b
    obtain ⟨a, vs, e, s, r⟩ := h
    exact ⟨a, vs, e, s.imp (fun ⟨o, e1, e2, e3⟩ => ⟨o, e1, e2, fun z => e3 z.1⟩) id, RepL.cut hn l vs r b⟩
  | .lst l, v, h, b => by
    simp only [Rep] at h ⊢
    simp only [D.bel] at b
    obtain ⟨a, vs, e, s, r⟩ := h
    exact ⟨a, vs, e, ⟨s.1, fun z => s.2 z.1⟩, RepL.cut hn l vs r b⟩
  | .dct l, v, h, b => by
    simp only [Rep] at h ⊢
    simp only [D.bel] at b
    obtain ⟨a, o, e, s, r⟩ := h
    exact ⟨a, o, e, ⟨s.1, fun z => s.2 z.1⟩, r.imp (fun ⟨kvs, e, r⟩ => ⟨kvs, e, RepP.cut hn l kvs r b⟩) fun ⟨ps, e, ne, r⟩ => ⟨ps, e, ne, RepQ.cut hn l ps r b⟩⟩
  | .set _, v, h, _ => h
  | .ref i, v, h, b => by
    simp only [Rep] at h ⊢
    simp only [D.bel] at b
    have b := of_decide_eq_true b
    obtain ⟨hl, a, e, q, q2⟩ := h
    refine ⟨?_, a, e, fun c hc => q c (cut_get hc).2, q2⟩
    show i < (w.m.take n).length
    rw [List.length_take]; omega
  | .exc _ _, v, h, _ => h
  | .scr l, v, h, _ => by
    simp only [Rep] at h ⊢
    obtain ⟨a, e, s⟩ := h
    exact ⟨a, e, s.imp cut_rd id⟩
  | .pr a b, v, h, c => by
    simp only [Rep] at h ⊢
    simp only [D.bel, Bool.and_eq_true] at c
    obtain ⟨p, y, z, e, s, ra, rb⟩ := h
    exact ⟨p, y, z, e, cut_rd s, Rep.cut hn a y ra c.1, Rep.cut hn b z rb c.2⟩
theorem RepL.cut {k : Kx} {w : Wd} {n : Nat} (hn : n ≤ w.m.length) : ∀ (l : List D) (vs : List V), RepL k w l vs → D.belL n l = true → RepL k (w.cut n) l vs
  | [], vs, h, _ => h
  | d :: r, vs, h, b => by
    simp only [RepL] at h ⊢
    simp only [D.belL, Bool.and_eq_true] at b
    obtain ⟨v, vr, e, h1, h2⟩ := h
    exact ⟨v, vr, e, Rep.cut hn d v h1 b.1, RepL.cut hn r vr h2 b.2⟩
theorem RepP.cut {k : Kx} {w : Wd} {n : Nat} (hn : n ≤ w.m.length) : ∀ (l : List (D × D)) (kvs : List (Key × V)), RepP k w l kvs → D.belP n l = true → RepP k (w.cut n) l kvs
  | [], kvs, h, _ => h
  | (kd, d) :: r, kvs, h, b => by
    simp only [RepP] at h ⊢
    simp only [D.belP, Bool.and_eq_true] at b
    obtain ⟨key, v, vr, e, e2, h0, h1, h2⟩ := h
    exact ⟨key, v, vr, e, e2, Rep.cut hn kd _ h0 b.1.1, Rep.cut hn d v h1 b.1.2, RepP.cut hn r vr h2 b.2⟩
theorem RepQ.cut {k : Kx} {w : Wd} {n : Nat} (hn : n ≤ w.m.length) : ∀ (l : List (D × D)) (ps : List (NestedKey × Addr × V)), RepQ k w l ps → D.belP n l = true → RepQ k (w.cut n) l ps
  | [], ps, h, _ => h
  | (kd, d) :: r, ps, h, c => by
    simp only [RepQ] at h ⊢
    simp only [D.belP, Bool.and_eq_true] at c
    obtain ⟨b, v, pr, e, e2, h0, h1, h2⟩ := h
    exact ⟨b, v, pr, e, e2, Rep.cut hn kd _ h0 c.1.1, Rep.cut hn d v h1 c.1.2, RepQ.cut hn r pr h2 c.2⟩
end
theorem ExR.cut {k : Kx} {w : Wd} {n : Nat} (hn : n ≤ w.m.length) {c : EC} {l : List D} {u : Value} {dd : Option Addr} (r : ExR k w c l u dd) (b : D.belL n l = true) : ExR k (w.cut n) c l u dd := by
  obtain ⟨h1, h2, h3⟩ := r
  refine ⟨h1, h2, fun ne => ?_⟩
  obtain ⟨dx, vf, e, q, nL, f⟩ := h3 ne
  refine ⟨dx, vf, e, q, fun z => nL z.1, fun i g d e1 e2 => ?_⟩
  obtain ⟨v, y, z⟩ := f i g d e1 e2
  exact ⟨v, y, Rep.cut hn d v z (belL_get b e2)⟩
theorem RepF.cut {k : Kx} {w : Wd} {n : Nat} (hn : n ≤ w.m.length) : ∀ (l : List (Str × D)) (fs : List (Str × V)), RepF k w l fs → (l.all fun p => p.2.bel n) = true → RepF k (w.cut n) l fs
  | [], fs, h, _ => h
  | (f, d) :: r, fs, h, b => by
    simp only [RepF] at h ⊢
    simp only [List.all_cons, Bool.and_eq_true] at b
    obtain ⟨v, vr, e, h1, h2⟩ := h
    exact ⟨v, vr, e, Rep.cut hn d v h1 b.1, RepF.cut hn r vr h2 b.2⟩
theorem RepO.cut {k : Kx} {w : Wd} {n : Nat} (hn : n ≤ w.m.length) {a : Addr} {o : Ob} (h : RepO k w a o) (b : o.bel n = true) : RepO k (w.cut n) a o := by
  cases o with
  | lst l => obtain ⟨vs, h1, h2⟩ := h; exact ⟨vs, h1, RepL.cut hn l vs h2 b⟩
  | dct l =>
    obtain ⟨o, h1, h2⟩ := h
    exact ⟨o, h1, h2.imp (fun ⟨kvs, e, r⟩ => ⟨kvs, e, RepP.cut hn l kvs r b⟩) fun ⟨ps, e, ne, r⟩ => ⟨ps, e, ne, RepQ.cut hn l ps r b⟩⟩
  | ins c fs => obtain ⟨dx, vf, h1, h2⟩ := h; exact ⟨dx, vf, h1, RepF.cut hn fs vf h2 b⟩
  | dead => trivial
  | exc c l => exact h
theorem RepL.length {k : Kx} {w : Wd} : ∀ {l : List D} {vs : List V}, RepL k w l vs → l.length = vs.length
  | [], vs, h => by simp only [RepL] at h; subst h; rfl
  | d :: r, vs, h => by
    simp only [RepL] at h
    obtain ⟨v, vr, rfl, _, h2⟩ := h
    simp [RepL.length h2]
theorem RepL.get {k : Kx} {w : Wd} : ∀ {l : List D} {vs : List V} {i : Nat} {d : D}, RepL k w l vs → l[i]? = some d → ∃ v, vs[i]? = some v ∧ Rep k w d v
  | [], _, _, _, _, e => by simp at e
  | d :: r, vs, i, x, h, e => by
    simp only [RepL] at h
    obtain ⟨v, vr, rfl, h1, h2⟩ := h
    cases i with
    | zero => simp at e; subst e; exact ⟨v, rfl, h1⟩
    | succ i => simpa using RepL.get h2 (by simpa using e)
theorem RepL.nil {k : Kx} {w : Wd} : RepL k w [] [] := by simp [RepL]
theorem RepL.cons {k : Kx} {w : Wd} {d : D} {v : V} {l : List D} {vs : List V} (h : Rep k w d v) (r : RepL k w l vs) : RepL k w (d :: l) (v :: vs) := by
  simp only [RepL]; exact ⟨v, vs, rfl, h, r⟩
theorem RepL.append {k : Kx} {w : Wd} : ∀ {l : List D} {vs : List V} {l' : List D} {vs' : List V}, RepL k w l vs → RepL k w l' vs' → RepL k w (l ++ l') (vs ++ vs')
  | [], vs, _, _, h, h' => by simp only [RepL] at h; subst h; exact h'
  | d :: r, vs, _, _, h, h' => by
    simp only [RepL] at h
    obtain ⟨v, vr, rfl, h1, h2⟩ := h
    exact .cons h1 (RepL.append h2 h')
theorem RepL.one {k : Kx} {w : Wd} {d : D} {v : V} (h : Rep k w d v) : RepL k w [d] [v] := .cons h .nil
theorem RepL.take {k : Kx} {w : Wd} : ∀ {l : List D} {vs : List V} (n : Nat), RepL k w l vs → RepL k w (l.take n) (vs.take n)
  | l, vs, 0, h => by simp; exact .nil
  | [], vs, n + 1, h => by simp only [RepL] at h; subst h; exact .nil
  | d :: r, vs, n + 1, h => by
    simp only [RepL] at h
    obtain ⟨v, vr, rfl, h1, h2⟩ := h
    exact .cons h1 (RepL.take n h2)
theorem RepL.drop {k : Kx} {w : Wd} : ∀ {l : List D} {vs : List V} (n : Nat), RepL k w l vs → RepL k w (l.drop n) (vs.drop n)
  | l, vs, 0, h => by simpa using h
  | [], vs, n + 1, h => by simp only [RepL] at h; subst h; exact .nil
  | d :: r, vs, n + 1, h => by
    simp only [RepL] at h
    obtain ⟨v, vr, rfl, h1, h2⟩ := h
    simpa using RepL.drop n h2
theorem RepL.set {k : Kx} {w : Wd} {d : D} {v : V} (q : Rep k w d v) : ∀ {l : List D} {vs : List V} (i : Nat), RepL k w l vs → RepL k w (l.set i d) (vs.set i v)
  | [], vs, _, h => by simp only [RepL] at h; subst h; exact .nil
  | d :: r, vs, i, h => by
    simp only [RepL] at h
    obtain ⟨u, vr, rfl, h1, h2⟩ := h
    cases i with
    | zero => exact .cons q h2
    | succ i => exact .cons h1 (RepL.set q i h2)
theorem RepL.reverse {k : Kx} {w : Wd} : ∀ {l : List D} {vs : List V}, RepL k w l vs → RepL k w l.reverse vs.reverse
  | [], vs, h => by simp only [RepL] at h; subst h; exact .nil
  | d :: r, vs, h => by
    simp only [RepL] at h
    obtain ⟨u, vr, rfl, h1, h2⟩ := h
    rw [List.reverse_cons, List.reverse_cons]
    exact .append (RepL.reverse h2) (.one h1)
theorem RepL.eraseIdx {k : Kx} {w : Wd} : ∀ {l : List D} {vs : List V} (i : Nat), RepL k w l vs → RepL k w (l.eraseIdx i) (vs.eraseIdx i)
  | [], vs, _, h => by simp only [RepL] at h; subst h; exact .nil
  | d :: r, vs, i, h => by
    simp only [RepL] at h
    obtain ⟨u, vr, rfl, h1, h2⟩ := h
    cases i with
    | zero => exact h2
    | succ i => exact .cons h1 (RepL.eraseIdx i h2)
theorem RepL.flat {k : Kx} {w : Wd} {l : List D} {vs : List V} (h : RepL k w l vs) : ∀ n, RepL k w (List.replicate n l).flatten (List.replicate n vs).flatten
  | 0 => by simp; exact .nil
  | n + 1 => by
    rw [List.replicate_succ, List.replicate_succ, List.flatten_cons, List.flatten_cons]
    exact .append h (RepL.flat h n)

/-! ### steps of the world -/
section
variable {k : Kx} {w w' : Wd} {h h' : Hh}
theorem WR.refl (q : WR k w h) : w.le w := .refl q.live
/-- a thing that stands still comes; a thing of ours is written; a reserved one is -/
def Wd.put (w : Wd) (p : Addr) (o : HO) : Wd := ⟨w.L, w.m, upd w.H p o⟩
theorem WR.tr (q : WR k w h) {i : Nat} {a : Addr} (e : w.m[i]? = some (some a)) : ∃ o, w.H a = some o := q.trk a (q.live i a e)
theorem WR.le_put (q : WR k w h) {p : Addr} {o : HO} (hp : w.H p = none) : w.le (w.put p o) where
  len := Nat.le_refl _
  old := fun _ _ _ e => e
  new := fun i a hi e => by
    have : w.m[i]? = some (some a) := e
    rw [List.getElem?_eq_none hi] at this; cases this
  L := fun _ z => .inl z
  keep := fun a u e _ => by show upd w.H p o a = some u; rw [upd_ne (ne_of_none e hp)]; exact e
  trk := fun a u e => ⟨u, by show upd w.H p o a = some u; rw [upd_ne (ne_of_none e hp)]; exact e⟩
  live := q.live
  hold := fun _ _ z _ _ => z
theorem WR.put (q : WR k w h) {p : Addr} {o : HO} (hp : w.H p = none) : WR k (w.put p o) h := by
  have x := q.le_put (o := o) hp
  refine ⟨q.len, fun i b a e1 e2 => ?_, q.dead, q.alive, q.inj, q.live, fun a z => ?_, fun i c l e => (q.exc i c l e).imp fun _ ⟨d, y, z⟩ => ⟨d, y, z.mono x.li⟩, q.hid⟩
  · obtain ⟨u, hu⟩ := q.tr e2
    exact (q.obs i b a e1 e2).mono x.li (upd_ne (ne_of_none hu hp))
  · obtain ⟨u, hu⟩ := q.trk a z
    exact x.trk a u hu
/-- a thing of ours, as it stands -/
theorem WR.at_ (q : WR k w h) {n : Nat} {o : Ob} (e : h[n]? = some o) (ne : o.live = true) : ∃ a, w.m[n]? = some (some a) ∧ RepO k w a o := by
  obtain ⟨a, ha⟩ := q.alive n o e ne
  exact ⟨a, ha, q.obs n o a e ha⟩
theorem WR.lst (q : WR k w h) {n : Nat} {l : List D} {v : V} (e : h[n]? = some (.lst l)) (r : Rep k w (.ref n) v) : ∃ a vs, v = .ref a ∧ w.m[n]? = some (some a) ∧ w.H a = some (.lst vs) ∧ RepL k w l vs := by
  obtain ⟨a, ha, vs, h1, h2⟩ := q.at_ e rfl
  simp only [Rep] at r
  obtain ⟨_, b, e2, z⟩ := r
  have := z.1 a ha; subst this
  exact ⟨a, vs, e2, ha, h1, h2⟩
theorem WR.ins (q : WR k w h) {n : Nat} {c : Str} {fs : List (Str × D)} {v : V} (e : h[n]? = some (.ins c fs)) (r : Rep k w (.ref n) v) : ∃ a dx vf, v = .ref a ∧ w.m[n]? = some (some a) ∧ w.H a = some (.ins (k.ca c) dx vf) ∧ RepF k w fs vf := by
  obtain ⟨a, ha, dx, vf, h1, h2⟩ := q.at_ e rfl
  simp only [Rep] at r
  obtain ⟨_, b, e2, z⟩ := r
  have := z.1 a ha; subst this
  exact ⟨a, dx, vf, e2, ha, h1, h2⟩
/-- a write -/
theorem WR.le_wr (q : WR k w h) {n : Nat} {a : Addr} {o : HO} (ha : w.m[n]? = some (some a)) : w.le (w.put a o) where
  len := Nat.le_refl _
  old := fun _ _ _ e => e
  new := fun i b hi e => by
    have : w.m[i]? = some (some b) := e
    rw [List.getElem?_eq_none hi] at this; cases this
  L := fun _ z => .inl z
  keep := fun b u e nl => by
    have : b ≠ a := fun z => nl n (z ▸ ha)
    show upd w.H a o b = some u; rw [upd_ne this]; exact e
  trk := fun b u e => by
    by_cases hb : b = a
    · exact ⟨o, by show upd w.H a o b = some o; rw [hb, upd_same]⟩
    · exact ⟨u, by show upd w.H a o b = some u; rw [upd_ne hb]; exact e⟩
  live := q.live
  hold := fun _ _ z _ _ => z
theorem WR.wr (q : WR k w h) {n : Nat} {a : Addr} {o : HO} {b : Ob} (ha : w.m[n]? = some (some a)) (r : RepO k (w.put a o) a b) (nd : b.live = true) : WR k (w.put a o) (h.set n b) := by
  have x := q.le_wr (o := o) ha
  have hn : n < h.length := by rw [← q.len]; exact (List.getElem?_eq_some_iff.mp ha).1
  refine ⟨by rw [List.length_set]; exact q.len, fun i c d e1 e2 => ?_, fun i c d e1 lv e2 => ?_, fun i c e1 e2 => ?_, q.inj, q.live, fun d z => ?_, fun i c l e => ?_, fun a i dd e => by rw [List.length_set]; exact q.hid a i dd e⟩
  · by_cases hi : i = n
    · subst hi
      rw [List.getElem?_set_self hn] at e1; cases e1
      have : d = a := by have e2 : w.m[i]? = some (some d) := e2; rw [ha] at e2; cases e2; rfl
      subst this; exact r
    · rw [List.getElem?_set_ne (Ne.symm hi)] at e1
      have hd : d ≠ a := fun z => hi (q.inj i n a (z ▸ e2) ha)
      exact (q.obs i c d e1 e2).mono x.li (upd_ne hd)
  · by_cases hi : i = n
    · subst hi
      rw [List.getElem?_set_self hn] at e1; cases e1; rw [nd] at lv; cases lv
    · rw [List.getElem?_set_ne (Ne.symm hi)] at e1
      exact q.dead i c d e1 lv e2
  · by_cases hi : i = n
    · subst hi; exact ⟨a, ha⟩
    · rw [List.getElem?_set_ne (Ne.symm hi)] at e1
      exact q.alive i c e1 e2
  · obtain ⟨u, hu⟩ := q.trk d z
    exact x.trk d u hu
  · by_cases hi : i = n
    · subst hi
      rw [List.getElem?_set_self hn] at e; cases e; cases nd
    · rw [List.getElem?_set_ne (Ne.symm hi)] at e
      obtain ⟨b, dd, y, z⟩ := q.exc i c l e
      exact ⟨b, dd, y, z.mono x.li⟩
/-- a new thing of ours -/
def Wd.new (w : Wd) (p : Addr) (o : HO) : Wd := ⟨fun a => a = p ∨ w.L a, w.m ++ [some p], upd w.H p o⟩
theorem WR.le_new (q : WR k w h) {p : Addr} {o : HO} (hp : w.H p = none) : w.le (w.new p o) where
  len := by show _ ≤ (w.m ++ [some p]).length; simp
  old := fun i a hi e => by
    have e : (w.m ++ [some p])[i]? = some (some a) := e
    rw [List.getElem?_append_left hi] at e; exact e
  new := fun i a hi e => by
    have e : (w.m ++ [some p])[i]? = some (some a) := e
    rw [List.getElem?_append_right hi] at e
    cases hj : i - w.m.length with
    | zero => rw [hj] at e; simp at e; rw [← e]; exact hp
    | succ j => rw [hj] at e; simp at e
  L := fun a z => by
    rcases z with z | z
    · right; rw [z]; exact hp
    · exact .inl z
  keep := fun a u e _ => by show upd w.H p o a = some u; rw [upd_ne (ne_of_none e hp)]; exact e
  trk := fun a u e => ⟨u, by show upd w.H p o a = some u; rw [upd_ne (ne_of_none e hp)]; exact e⟩
  live := q.live
  hold := fun _ _ z _ _ => .inr z
theorem WR.new (q : WR k w h) {p : Addr} {o : HO} {b : Ob} (hp : w.H p = none) (r : RepO k (w.new p o) p b) (nd : b.live = true) : WR k (w.new p o) (h ++ [b]) := by
  have x := q.le_new (o := o) hp
  have get : ∀ {i : Nat} {d : Addr}, (w.new p o).m[i]? = some (some d) → (i < w.m.length ∧ w.m[i]? = some (some d)) ∨ (i = w.m.length ∧ d = p) := fun {i d} e => by
    have e : (w.m ++ [some p])[i]? = some (some d) := e
    by_cases hi : i < w.m.length
    · rw [List.getElem?_append_left hi] at e; exact .inl ⟨hi, e⟩
    · rw [List.getElem?_append_right (Nat.le_of_not_lt hi)] at e
      cases hj : i - w.m.length with
      | zero => rw [hj] at e; simp at e; exact .inr ⟨by omega, e.symm⟩
      | succ j => rw [hj] at e; simp at e
  have ne : ∀ {i : Nat} {d : Addr}, w.m[i]? = some (some d) → d ≠ p := fun {i d} e => by
    obtain ⟨u, hu⟩ := q.tr e
    exact ne_of_none hu hp
  have hg : ∀ {i : Nat} {c : Ob}, (h ++ [b])[i]? = some c → (i < h.length ∧ h[i]? = some c) ∨ (i = h.length ∧ c = b) := fun {i c} e => by
    by_cases hi : i < h.length
    · rw [List.getElem?_append_left hi] at e; exact .inl ⟨hi, e⟩
    · rw [List.getElem?_append_right (Nat.le_of_not_lt hi)] at e
      cases hj : i - h.length with
      | zero => rw [hj] at e; simp at e; exact .inr ⟨by omega, e.symm⟩
      | succ j => rw [hj] at e; simp at e
  refine ⟨by show (w.m ++ [some p]).length = _; simp [q.len], fun i c d e1 e2 => ?_, fun i c d e1 lv e2 => ?_, fun i c e1 e2 => ?_, fun i j d e1 e2 => ?_, fun i d e => ?_, fun d z => ?_, fun i c l e => ?_, fun a i dd e => by rw [List.length_append]; exact Nat.lt_of_lt_of_le (q.hid a i dd e) (Nat.le_add_right _ _)⟩
  · rcases get e2 with ⟨hi, e2⟩ | ⟨hi, rfl⟩
    · rcases hg e1 with ⟨_, e1⟩ | ⟨z, _⟩
      · exact (q.obs i c d e1 e2).mono x.li (upd_ne (ne e2))
      · rw [q.len] at hi; omega
    · rcases hg e1 with ⟨z, _⟩ | ⟨_, rfl⟩
      · rw [q.len] at hi; omega
      · exact r
  · rcases get e2 with ⟨hi, e2⟩ | ⟨hi, rfl⟩
    · rcases hg e1 with ⟨_, e1⟩ | ⟨z, _⟩
      · exact q.dead i c d e1 lv e2
      · rw [q.len] at hi; omega
    · rcases hg e1 with ⟨z, _⟩ | ⟨_, z⟩
      · rw [q.len] at hi; omega
      · rw [z, nd] at lv; cases lv
  · rcases hg e1 with ⟨hi, e1⟩ | ⟨hi, _⟩
    · obtain ⟨a, ha⟩ := q.alive i c e1 e2
      exact ⟨a, by show (w.m ++ [some p])[i]? = _; rw [List.getElem?_append_left (by rw [q.len]; exact hi)]; exact ha⟩
    · exact ⟨p, by show (w.m ++ [some p])[i]? = _; rw [List.getElem?_append_right (by rw [q.len, hi]; exact Nat.le_refl _)]; simp [hi, q.len]⟩
  · rcases get e1 with ⟨_, e1⟩ | ⟨hi, rfl⟩ <;> rcases get e2 with ⟨_, e2⟩ | ⟨hj, z⟩
    · exact q.inj i j d e1 e2
    · exact absurd z (ne e1)
    · exact absurd rfl (ne e2)
    · rw [hi, hj]
  · rcases get e with ⟨_, e⟩ | ⟨_, rfl⟩
    · exact .inr (q.live i d e)
    · exact .inl rfl
  · rcases z with z | z
    · exact ⟨o, by show upd w.H p o d = _; rw [z, upd_same]⟩
    · obtain ⟨u, hu⟩ := q.trk d z
      exact x.trk d u hu
  · rcases hg e with ⟨_, e⟩ | ⟨_, z⟩
    · obtain ⟨b, dd, y, z⟩ := q.exc i c l e
      exact ⟨b, dd, y, z.mono x.li⟩
    · rw [← z] at nd; cases nd
theorem new_ref (q : WR k w h) {p : Addr} {o : HO} : Rep k (w.new p o) (.ref h.length) (.ref p) := by
  simp only [Rep]
  have e : (w.new p o).m[h.length]? = some (some p) := by
    show (w.m ++ [some p])[h.length]? = _
    rw [← q.len, List.getElem?_append_right (Nat.le_refl _)]; simp
  refine ⟨(List.getElem?_eq_some_iff.mp e).1, p, rfl, fun b hb => ?_, fun b dd hb => absurd (q.hid _ _ _ hb) (Nat.lt_irrefl _)⟩
  rw [e] at hb; cases hb; rfl
/-- a thing of ours stands still from now on -/
def Wd.kill (w : Wd) (n : Nat) (a : Addr) : Wd := ⟨fun b => b ≠ a ∧ w.L b, w.m.set n none, w.H⟩
theorem kill_get {n i : Nat} {a b : Addr} (e : (w.kill n a).m[i]? = some (some b)) : i ≠ n ∧ w.m[i]? = some (some b) := by
  have e : (w.m.set n none)[i]? = some (some b) := e
  by_cases hi : n = i
  · subst hi
    rw [List.getElem?_set] at e; simp at e
  · rw [List.getElem?_set_ne hi] at e; exact ⟨Ne.symm hi, e⟩
theorem WR.le_kill (q : WR k w h) {n : Nat} {a : Addr} (ha : w.m[n]? = some (some a)) : w.le (w.kill n a) where
  len := by show _ ≤ (w.m.set n none).length; simp
  old := fun i b _ e => (kill_get e).2
  new := fun i b hi e => by
    have := (kill_get e).2
    rw [List.getElem?_eq_none hi] at this; cases this
  L := fun b z => .inl z.2
  keep := fun b u e _ => e
  trk := fun b u e => ⟨u, e⟩
  live := q.live
  hold := fun _ _ z _ y => ⟨fun e => y n (e ▸ ha), z⟩
theorem WR.kill (q : WR k w h) {n : Nat} {a : Addr} (ha : w.m[n]? = some (some a)) : WR k (w.kill n a) (h.set n .dead) := by
  have x := q.le_kill ha
  have hn : n < h.length := by rw [← q.len]; exact (List.getElem?_eq_some_iff.mp ha).1
  refine ⟨by show (w.m.set n none).length = _; simp [q.len], fun i c d e1 e2 => ?_, fun i c d e1 lv e2 => ?_, fun i c e1 e2 => ?_, fun i j d e1 e2 => q.inj i j d (kill_get e1).2 (kill_get e2).2, fun i d e => ?_, fun d z => q.trk d z.2, fun i c l e => ?_, fun a i dd e => by rw [List.length_set]; exact q.hid a i dd e⟩
  · obtain ⟨hi, e2⟩ := kill_get e2
    rw [List.getElem?_set_ne (Ne.symm hi)] at e1
    exact (q.obs i c d e1 e2).mono x.li rfl
  · obtain ⟨hi, e2⟩ := kill_get e2
    rw [List.getElem?_set_ne (Ne.symm hi)] at e1
    exact q.dead i c d e1 lv e2
  · by_cases hi : i = n
    · subst hi; rw [List.getElem?_set_self hn] at e1; cases e1; cases e2
    · rw [List.getElem?_set_ne (Ne.symm hi)] at e1
      obtain ⟨b, hb⟩ := q.alive i c e1 e2
      exact ⟨b, by show (w.m.set n none)[i]? = _; rw [List.getElem?_set_ne (Ne.symm hi)]; exact hb⟩
  · obtain ⟨hi, e⟩ := kill_get e
    exact ⟨fun z => hi (q.inj i n a (z ▸ e) ha), q.live i d e⟩
  · by_cases hi : i = n
    · subst hi; rw [List.getElem?_set_self hn] at e; cases e
    · rw [List.getElem?_set_ne (Ne.symm hi)] at e
      obtain ⟨b, dd, y, z⟩ := q.exc i c l e
      exact ⟨b, dd, y, z.mono x.li⟩
/-- a call's end -/
theorem WR.cut (q0 : WR k w h) (x : w.le w') (q : WR k w' h') (kp : Keeps h h') : WR k (w'.cut h.length) (h'.take h.length) := by
  have hl : h.length ≤ w'.m.length := by rw [← q0.len]; exact x.len
  refine ⟨?_, fun i o a e1 e2 => ?_, fun i o a e1 lv e2 => ?_, fun i o e1 e2 => ?_, fun i j a e1 e2 => q.inj i j a (cut_get e1).2 (cut_get e2).2, fun i a e => ?_, fun a z => q.trk a z.1, fun i c l e => ?_, fun a i dd e => ?_⟩
  · show (w'.m.take _).length = _
    rw [List.length_take, List.length_take, q.len]
  · obtain ⟨hi, e2⟩ := cut_get e2
    rw [List.getElem?_take_of_lt hi] at e1
    refine (q.obs i o a e1 e2).cut hl ?_
    rcases kp.2 i o hi e1 with z | z
    · have hw : w.m[i]? = some (some a) := x.old i a (by rw [q0.len]; exact hi) e2
      have := (q0.obs i o a z hw).bel
      rw [q0.len] at this; exact this
    · exact z
  · obtain ⟨hi, e2⟩ := cut_get e2
    rw [List.getElem?_take_of_lt hi] at e1
    exact q.dead i o a e1 lv e2
  · rw [List.getElem?_take] at e1
    split at e1
    · rename_i hi
      obtain ⟨a, ha⟩ := q.alive i o e1 e2
      exact ⟨a, by show (w'.m.take _)[i]? = _; rw [List.getElem?_take_of_lt hi]; exact ha⟩
    · cases e1
  · obtain ⟨hi, e⟩ := cut_get e
    refine ⟨q.live i a e, fun j hj z => ?_⟩
    have := q.inj i j a e z
    omega
  · rw [List.getElem?_take] at e
    split at e
    · rename_i hi
      obtain ⟨a, dd, y, z⟩ := q.exc i c l e
      refine ⟨a, dd, y, z.cut hl ?_⟩
      rcases kp.2 i _ hi e with u | u
      · obtain ⟨a', dd', y', z'⟩ := q0.exc i c l u
        have := z'.bel
        rw [q0.len] at this; exact this
      · exact u
    · cases e
  · have := q0.hid a i dd e
    have := kp.1
    rw [List.length_take]; omega
theorem le_cut (q0 : WR k w h) (x : w.le w') : w.le (w'.cut h.length) where
  len := by show _ ≤ (w'.m.take _).length; rw [List.length_take, ← q0.len]; have := x.len; omega
  old := fun i a hi e => x.old i a hi (cut_get e).2
  new := fun i a hi e => by have := (cut_get e).1; rw [q0.len] at hi; omega
  L := fun a z => x.L a z.1
  keep := x.keep
  trk := x.trk
  live := q0.live
  hold := fun a o z e y => ⟨x.hold a o z e y, fun i hi u => by
    have := x.new i a (by rw [q0.len]; exact hi) u
    rw [e] at this; cases this⟩
/-- a place that is kept for a list that is being made -/
def Wd.res (w : Wd) (p : Addr) (o : HO) : Wd := ⟨fun a => a = p ∨ w.L a, w.m, upd w.H p o⟩
theorem WR.li_res (q : WR k w h) {p : Addr} {o : HO} (hp : w.H p = none) : w.li (w.res p o) :=
  ⟨Nat.le_refl _, fun _ _ _ e => e, fun a u z => by
    have ne : a ≠ p := by
      rcases z.1 with y | ⟨o, y⟩
      · exact ne_of_none y hp
      · exact ne_of_none y hp
    refine ⟨?_, fun y => y.elim ne z.2⟩
    rcases z.1 with y | ⟨b, y⟩
    · exact .inl (by show upd w.H p o a = _; rw [upd_ne ne]; exact y)
    · exact .inr ⟨b, by show upd w.H p o a = _; rw [upd_ne ne]; exact y⟩,
  fun a u z => by
    have ne : a ≠ p := ne_of_none z.1 hp
    exact ⟨by show upd w.H p o a = _; rw [upd_ne ne]; exact z.1, fun y => y.elim ne z.2⟩⟩
theorem WR.res (q : WR k w h) {p : Addr} {o : HO} (hp : w.H p = none) : WR k (w.res p o) h := by
  refine ⟨q.len, fun i b a e1 e2 => ?_, q.dead, q.alive, q.inj, fun i a e => .inr (q.live i a e), fun a z => ?_, fun i c l e => (q.exc i c l e).imp fun _ ⟨d, y, z⟩ => ⟨d, y, z.mono (q.li_res hp)⟩, q.hid⟩
  · obtain ⟨u, hu⟩ := q.tr e2
    exact (q.obs i b a e1 e2).mono (q.li_res hp) (upd_ne (ne_of_none hu hp))
  · rcases z with z | z
    · exact ⟨o, by show upd w.H p o a = _; rw [z, upd_same]⟩
    · obtain ⟨u, hu⟩ := q.trk a z
      exact ⟨u, by show upd w.H p o a = _; rw [upd_ne (ne_of_none hu hp)]; exact hu⟩
/-- p is kept: nothing of ours stands there -/
def Wd.held (w : Wd) (p : Addr) : Prop := w.L p ∧ ∀ (i : Nat), w.m[i]? ≠ some (some p)
theorem held_res (q : WR k w h) {p : Addr} {o : HO} (hp : w.H p = none) : (w.res p o).held p :=
  ⟨.inl rfl, fun i e => by obtain ⟨u, hu⟩ := q.tr e; rw [hp] at hu; cases hu⟩
theorem held_le {p : Addr} {u : HO} (x : w.le w') (hp : w.held p) (e : w.H p = some u) : w'.held p ∧ w'.H p = some u :=
  ⟨⟨x.hold p u hp.1 e hp.2, fun i hi => by
    by_cases hb : i < w.m.length
    · exact hp.2 i (x.old i p hb hi)
    · have := x.new i p (Nat.le_of_not_lt hb) hi
      rw [e] at this; cases this⟩, x.keep p u e hp.2⟩
theorem WR.le_res (q : WR k w h) {p : Addr} {o : HO} (hp : w.H p = none) : w.le (w.res p o) where
  len := Nat.le_refl _
  old := fun _ _ _ e => e
  new := fun i a hi e => by
    have : w.m[i]? = some (some a) := e
    rw [List.getElem?_eq_none hi] at this; cases this
  L := fun a z => by
    rcases z with z | z
    · right; rw [z]; exact hp
    · exact .inl z
  keep := fun a u e _ => by show upd w.H p o a = some u; rw [upd_ne (ne_of_none e hp)]; exact e
  trk := fun a u e => ⟨u, by show upd w.H p o a = some u; rw [upd_ne (ne_of_none e hp)]; exact e⟩
  live := q.live
  hold := fun _ _ z _ _ => .inr z
theorem le_put_out {w0 : Wd} (x : w0.le w) {p : Addr} {o : HO} (hp : w0.H p = none) : w0.le (w.put p o) where
  len := x.len
  old := x.old
  new := x.new
  L := x.L
  keep := fun a u e n => by show upd w.H p o a = some u; rw [upd_ne (ne_of_none e hp)]; exact x.keep a u e n
  trk := fun a u e => by
    obtain ⟨u', e'⟩ := x.trk a u e
    exact ⟨u', by show upd w.H p o a = some u'; rw [upd_ne (ne_of_none e hp)]; exact e'⟩
  live := x.live
  hold := x.hold
theorem held_put {p q : Addr} {o : HO} (hp : w.held p) : (w.put q o).held p := hp
/-- the kept place is let go -/
def Wd.free (w : Wd) (p : Addr) : Wd := ⟨fun a => a ≠ p ∧ w.L a, w.m, w.H⟩
theorem li_free {p : Addr} : w.li (w.free p) := ⟨Nat.le_refl _, fun _ _ _ e => e, fun _ _ z => ⟨z.1, fun y => z.2 y.2⟩, fun _ _ z => ⟨z.1, fun y => z.2 y.2⟩⟩
theorem WR.free (q : WR k w h) {p : Addr} (hp : w.held p) : WR k (w.free p) h :=
  ⟨q.len, fun i b a e1 e2 => (q.obs i b a e1 e2).mono li_free rfl, q.dead, q.alive, q.inj, fun i a e => ⟨fun z => hp.2 i (z ▸ e), q.live i a e⟩, fun a z => q.trk a z.2, fun i c l e => (q.exc i c l e).imp fun _ ⟨d, y, z⟩ => ⟨d, y, z.mono li_free⟩, q.hid⟩
theorem le_free {w0 : Wd} (x : w0.le w) {p : Addr} (hp : w0.H p = none) : w0.le (w.free p) where
  len := x.len
  old := x.old
  new := x.new
  L := fun a z => x.L a z.2
  keep := x.keep
  trk := x.trk
  live := x.live
  hold := fun a o z e n => ⟨ne_of_none e hp, x.hold a o z e n⟩
theorem li_held {p : Addr} {o : HO} (hp : w.held p) : w.li (w.put p o) :=
  ⟨Nat.le_refl _, fun _ _ _ e => e, fun a u z => by
    have ne : a ≠ p := fun y => z.2 (y ▸ hp.1)
    refine ⟨?_, z.2⟩
    rcases z.1 with y | ⟨b, y⟩
    · exact .inl (by show upd w.H p o a = _; rw [upd_ne ne]; exact y)
    · exact .inr ⟨b, by show upd w.H p o a = _; rw [upd_ne ne]; exact y⟩,
  fun a u z => by
    have ne : a ≠ p := fun y => z.2 (y ▸ hp.1)
    exact ⟨by show upd w.H p o a = _; rw [upd_ne ne]; exact z.1, z.2⟩⟩
theorem WR.put_held (q : WR k w h) {p : Addr} {o : HO} (hp : w.held p) : WR k (w.put p o) h := by
  refine ⟨q.len, fun i b a e1 e2 => ?_, q.dead, q.alive, q.inj, q.live, fun a z => ?_, fun i c l e => (q.exc i c l e).imp fun _ ⟨d, y, z⟩ => ⟨d, y, z.mono (li_held hp)⟩, q.hid⟩
  · have ne : a ≠ p := fun y => hp.2 i (y ▸ e2)
    exact (q.obs i b a e1 e2).mono (li_held hp) (upd_ne ne)
  · by_cases ha : a = p
    · exact ⟨o, by show upd w.H p o a = _; rw [ha, upd_same]⟩
    · obtain ⟨u, hu⟩ := q.trk a z
      exact ⟨u, by show upd w.H p o a = _; rw [upd_ne ha]; exact hu⟩
end
end Dy
end

section
set_option linter.all false
set_option maxRecDepth 100000
set_option Elab.async false
/-! Dy, part C: expressions of the layer by the interpreter's. -/
namespace Dy
open PySem PySem.Spec PyProof.Rows L2

theorem PE.imp {X : Cx} {e : Expr} {t t' : TE} (h : PE X e t) (i : ∀ σ H Q, t' σ H Q → t σ H Q) : PE X e t' := ⟨fun pins s σ H Q I q => h.run pins s σ H Q I (i σ H Q q)⟩
theorem PT.imp {X : Cx} {e : Expr} {t t' : TT} (h : PT X e t) (i : ∀ σ H Q, t' σ H Q → t σ H Q) : PT X e t' := ⟨fun pins s σ H Q I q => h.run pins s σ H Q I (i σ H Q q)⟩
theorem PW.imp {X : Cx} {e : Expr} {t t' : TT} (h : PW X e t) (i : ∀ σ H Q, t' σ H Q → t σ H Q) : PW X e t' := ⟨fun wh pins s σ H Q I q => h.run wh pins s σ H Q I (i σ H Q q)⟩
theorem PA.imp {X : Cx} {e : List Expr} {t t' : TA} (h : PA X e t) (i : ∀ σ H Q, t' σ H Q → t σ H Q) : PA X e t' := ⟨fun p pins s σ H Q I q => h.run p pins s σ H Q I (i σ H Q q)⟩
theorem PS.imp {X : Cx} {e : Stmt} {t t' : TS} (h : PS X e t) (i : ∀ D σ H, t' D σ H → t D σ H) : PS X e t' := ⟨fun pins s σ H D I q => h.run pins s σ H D I (i D σ H q)⟩
theorem PSs.imp {X : Cx} {e : List Stmt} {t t' : TS} (h : PSs X e t) (i : ∀ D σ H, t' D σ H → t D σ H) : PSs X e t' := ⟨fun pins s σ H D I q => h.run pins s σ H D I (i D σ H q)⟩

section
variable (k : Kx) (W : Option WX)
/-- what is to be shown behind a piece of code -/
def post {α β : Type} (Rl : Wd → α → β → Prop) (w : Wd) (σV : L2.St) : R α → (β → Hp → Prop) → Prop
  | .ok a h, Q => ∀ w' b, w.le w' → WR k w' h → Rl w' a b → Q b w'.H
  | .ex c l h, _ => ∃ W0, W = some W0 ∧ ∀ w' u dd, w.le w' → WR k w' h → ExR k w' c l u dd → W0 u dd σV w'.H
  | .bad, _ => False
def tX {α β : Type} (Rl : Wd → α → β → Prop) (r : Sl → Hh → R α) : L2.St → Hp → (β → Hp → Prop) → Prop := fun σV H Q =>
  ∃ w σ h, w.H = H ∧ WR k w h ∧ Sr k w σ σV ∧ post k W Rl w σV (r σ h) Q
abbrev tE (r : Sl → Hh → R D) : TE := tX k W (Rep k) r
abbrev tT (r : Sl → Hh → R Bool) : TT := tX k W (fun _ a b => a = b) r
abbrev tA (r : Sl → Hh → R (List D)) : TA := tX k W (RepL k) r
end
section
variable {k : Kx} {W : Option WX} {α β γ δ : Type} {Rl : Wd → α → β → Prop} {Rm : Wd → γ → δ → Prop} {w w' : Wd} {σV : L2.St}
theorem post.mono (x : w.le w') {r : R α} {Q : β → Hp → Prop} (h : post k W Rl w σV r Q) : post k W Rl w' σV r Q := by
  cases r with
  | ok a h1 => exact fun w2 b y q r => h w2 b (x.trans y) q r
  | ex c l h1 => obtain ⟨W0, e, h⟩ := h; exact ⟨W0, e, fun w2 u dd y q r => h w2 u dd (x.trans y) q r⟩
  | bad => exact h
theorem post.imp {r : R α} {Q Q' : β → Hp → Prop} (h : post k W Rl w σV r Q) (i : ∀ b H, Q b H → Q' b H) : post k W Rl w σV r Q' := by
  cases r with
  | ok a h1 => exact fun w2 b y q r => i _ _ (h w2 b y q r)
  | ex c l h1 => exact h
  | bad => exact h
/-- a step, then the rest -/
theorem post.bind {r : R γ} {f : γ → Hh → R α} {Q : β → Hp → Prop} (h : post k W Rl w σV (r.bind f) Q) :
    post k W Rm w σV r (fun b H => ∃ w1 a h1, w1.H = H ∧ w.le w1 ∧ WR k w1 h1 ∧ Rm w1 a b ∧ post k W Rl w1 σV (f a h1) Q) := by
  cases r with
  | ok a h1 => exact fun w2 b y q r => ⟨w2, a, h1, rfl, y, q, r, h.mono y⟩
  | ex c l h1 => exact h
  | bad => exact h
theorem post.ok {a : α} {h : Hh} {Q : β → Hp → Prop} (p : post k W Rl w σV (.ok a h) Q) {b : β} (x : w.le w') (q : WR k w' h) (r : Rl w' a b) : Q b w'.H := p w' b x q r
theorem post.here {a : α} {h : Hh} {Q : β → Hp → Prop} (p : post k W Rl w σV (.ok a h) Q) {b : β} (q : WR k w h) (r : Rl w a b) : Q b w.H := p w b q.refl q r
theorem tX.bind {r : Sl → Hh → R γ} {f : Sl → γ → Hh → R α} {H : Hp} {Q : β → Hp → Prop} (h : tX k W Rl (fun σ h => (r σ h).bind (f σ)) σV H Q) :
    tX k W Rm r σV H (fun b H1 => ∃ w1 σ a h1, w1.H = H1 ∧ WR k w1 h1 ∧ Sr k w1 σ σV ∧ Rm w1 a b ∧ post k W Rl w1 σV (f σ a h1) Q) := by
  obtain ⟨w, σ, h, rfl, q, s, p⟩ := h
  exact ⟨w, σ, h, rfl, q, s, (p.bind (Rm := Rm)).imp fun b H ⟨w1, a, h1, e, x, q1, r1, p1⟩ => ⟨w1, σ, a, h1, e, q1, s.mono x.li, r1, p1⟩⟩
theorem tX.imp {r : Sl → Hh → R α} {H : Hp} {Q Q' : β → Hp → Prop} (h : tX k W Rl r σV H Q) (i : ∀ b H, Q b H → Q' b H) : tX k W Rl r σV H Q' := by
  obtain ⟨w, σ, h, e, q, s, p⟩ := h
  exact ⟨w, σ, h, e, q, s, p.imp i⟩
theorem tX.eq {r r' : Sl → Hh → R α} {H : Hp} {Q : β → Hp → Prop} (h : tX k W Rl r σV H Q) (e : ∀ σ h, r σ h = r' σ h) : tX k W Rl r' σV H Q := by
  obtain ⟨w, σ, h, e1, q, s, p⟩ := h
  exact ⟨w, σ, h, e1, q, s, by rw [← e]; exact p⟩
end

/-! ### operators by values -/
section
variable (k : Kx) (W : Option WX)
/-- a rule of two values -/
def r2 (g : D → D → Hh → R D) : R2 := fun x y H Q => ∃ w h a b σV, w.H = H ∧ WR k w h ∧ Rep k w a x ∧ Rep k w b y ∧ post k W (Rep k) w σV (g a b h) Q
def r1 (g : D → Hh → R D) : V → Hp → VK → Prop := fun x H Q => ∃ w h a σV, w.H = H ∧ WR k w h ∧ Rep k w a x ∧ post k W (Rep k) w σV (g a h) Q
def rL (g : List D → Hh → R D) : List V → Hp → VK → Prop := fun xs H Q => ∃ w h l σV, w.H = H ∧ WR k w h ∧ RepL k w l xs ∧ post k W (Rep k) w σV (g l h) Q
end
section
variable {k : Kx} {W : Option WX} {X : Cx} {pos : Pos}
theorem tE.two {ra rb : Sl → Hh → R D} {g : D → D → Hh → R D} {σV : L2.St} {H : Hp} {Q : VK}
    (h : tE k W (fun σ h => (ra σ h).bind fun x h => (rb σ h).bind fun y h => g x y h) σV H Q) : tOp (r2 k W g) (tE k W ra) (tE k W rb) σV H Q := by
  refine (tX.bind (Rm := Rep k) h).imp fun x H1 ⟨w1, σ, a, h1, e1, q1, s1, r1, p1⟩ => ?_
  refine ⟨w1, σ, h1, e1, q1, s1, (p1.bind (Rm := Rep k)).imp fun y H2 ⟨w2, b, h2, e2, x2, q2, r2, p2⟩ => ?_⟩
  exact ⟨w2, h2, a, b, σV, e2, q2, Rep.mono x2.li _ _ r1, r2, p2⟩
theorem pe_two {op : Operator} {ra rb : Sl → Hh → R D} {g : D → D → Hh → R D} {a b : Expr} (ho : OpR X (binaryOp op) (r2 k W g)) (ha : PE X a (tE k W ra)) (hb : PE X b (tE k W rb)) :
    PE X (.BinOp a op b pos) (tE k W fun σ h => (ra σ h).bind fun x h => (rb σ h).bind fun y h => g x y h) :=
  PE.imp (pe_op ho ha hb) fun _ _ _ h => tE.two h
theorem pe_comp {op : CmpOp} {ra rb : Sl → Hh → R D} {g : D → D → Hh → R D} {a b : Expr} (ho : OpR X (compareOp op) (r2 k W g)) (ha : PE X a (tE k W ra)) (hb : PE X b (tE k W rb)) (hm : behindInMarks op b = false) :
    PE X (.Compare a [op] [b] pos) (tE k W fun σ h => (ra σ h).bind fun x h => (rb σ h).bind fun y h => g x y h) :=
  PE.imp (pe_cmpR ho ha hb hm) fun _ _ _ h => tE.two h

/-! names, constants -/
theorem Sr.get {w : Wd} {σ : Sl} {σV : L2.St} (s : Sr k w σ σV) {i : Nat} {d : D} (e : σ[i]? = some (some d)) : ∃ v, σV[i]? = some (some v) ∧ Rep k w d v := s.2 i d e
theorem pd_var {i : Nat} {x : Str} (hN : X.N[i]? = some x) (hv : Vis X.env.scope x) (hd : (x == ("__debug__" : Str)) = false) (hcd : (x == ("__classdict__" : Str)) = false) (c : Cl) : PE X (.Name x pos) (tE k W (evalE c (.var i))) :=
  PE.imp (pe_var hN hv hd hcd) fun σV H Q ⟨w, σ, h, e, q, s, p⟩ => by
    simp only [evalE] at p
    split at p
    · rename_i d ed
      obtain ⟨v, ev, r⟩ := s.2 i d ed
      exact ⟨v, ev, e ▸ p.here q r⟩
    · exact p.elim
theorem pd_const {v : V} {d : D} {e : Expr} (h : PE X e (tC v)) (r : ∀ w, Rep k w d v) : PE X e (tE k W fun _ h => .ok d h) :=
  PE.imp h fun σV H Q ⟨w, σ, h, e, q, s, p⟩ => e ▸ p.here q (r w)

/-! new tuples, lists -/
theorem Rep.tup_new {w : Wd} {l : List D} {vs : List V} {p : Addr} {o : Obj} (ho : o.dict = none) (n : ¬ w.L p) (r : RepL k w l vs) (x : w.li (w.put p (.frz o (.tup vs)))) : Rep k (w.put p (.frz o (.tup vs))) (.tup l) (.ref p) := by
  simp only [Rep]
  exact ⟨p, vs, rfl, .inl ⟨o, ho, upd_same, n⟩, RepL.mono x l vs r⟩
theorem Rep.pr_new {w : Wd} {a b : D} {x y : V} {p : Addr} (n : ¬ w.L p) (ra : Rep k w a x) (rb : Rep k w b y) (z : w.li (w.put p (.tup [x, y]))) : Rep k (w.put p (.tup [x, y])) (.pr a b) (.ref p) := by
  simp only [Rep]
  exact ⟨p, x, y, rfl, ⟨.inl upd_same, n⟩, Rep.mono z a x ra, Rep.mono z b y rb⟩
theorem Rep.lst_new {w : Wd} {l : List D} {vs : List V} {p : Addr} (n : ¬ w.L p) (r : RepL k w l vs) (x : w.li (w.put p (.lst vs))) : Rep k (w.put p (.lst vs)) (.lst l) (.ref p) := by
  simp only [Rep]
  exact ⟨p, vs, rfl, ⟨upd_same, n⟩, RepL.mono x l vs r⟩
theorem WR.nL {w : Wd} {h : Hh} (q : WR k w h) {p : Addr} (hp : w.H p = none) : ¬ w.L p := fun z => by
  obtain ⟨o, e⟩ := q.trk p z
  rw [hp] at e; cases e
/-- a tuple laid at a new place -/
theorem post.tup {w : Wd} {σV : L2.St} {h : Hh} {l : List D} {vs : List V} {Q : VK} (p : post k W (Rep k) w σV (.ok (.tup l) h) Q) (q : WR k w h) (r : RepL k w l vs) {a : Addr} {o : Obj} (ha : w.H a = none) (ho : o.dict = none) : Q (.ref a) (upd w.H a (.frz o (.tup vs))) :=
  p.ok (q.le_put ha) (q.put ha) (Rep.tup_new ho (q.nL ha) r (q.le_put ha).li)
/-- a list laid at a new place -/
theorem post.lst {w : Wd} {σV : L2.St} {h : Hh} {m : Bool} {l : List D} {vs : List V} {Q : VK} (p : post k W (Rep k) w σV (mkL m l h) Q) (q : WR k w h) (r : RepL k w l vs) {a : Addr} (ha : w.H a = none) : Q (.ref a) (upd w.H a (.lst vs)) := by
  cases m with
  | false => exact p.ok (q.le_put ha) (q.put ha) (Rep.lst_new (q.nL ha) r (q.le_put ha).li)
  | true =>
    have x := q.le_new (o := .lst vs) ha
    have q2 : WR k (w.new a (.lst vs)) (h ++ [.lst l]) := q.new ha ⟨vs, upd_same, RepL.mono x.li l vs r⟩ rfl
    exact p.ok x q2 (new_ref q)

/-! rows of expressions -/
abbrev rowR (r : R D) : R (List D) := r.bind fun d h => .ok (asTup d) h
theorem rowR_cons {ra rb : R D} : rowR (ra.bind fun x h => rb.bind fun y h => .ok (.tup (x :: asTup y)) h) = ra.bind fun x h => (rowR rb).bind fun l h => .ok (x :: l) h := by
  cases ra with
  | ok a h => cases rb <;> rfl
  | ex c l h => rfl
  | bad => rfl
end
end Dy
end

section
set_option linter.all false
set_option maxRecDepth 100000
set_option maxHeartbeats 1000000
set_option Elab.async false
/-! Dy: dicts whose keys are ints and texts. -/
namespace Dy
open PySem PySem.Spec PyProof.Rows L2
section
variable {k : Kx} {w : Wd} {h : Hh}
theorem keyD_sc (key : Key) : (keyD key).isSc = true := by cases key <;> rfl
theorem sc_keyD {d : D} (hs : d.isSc = true) : ∃ key, d = keyD key := by
  cases d <;> first | (exact Bool.noConfusion hs) | skip
  · rename_i i; exact ⟨.inl i, rfl⟩
  · rename_i s; exact ⟨.inr s, rfl⟩
theorem keyD_inj {a b : Key} (e : keyD a = keyD b) : a = b := by
  cases a <;> cases b <;> first | (cases e; rfl) | cases e
theorem eqv_keyD (a b : Key) : D.eqv (keyD a) (keyD b) = decide (a = b) := by
  cases a with
  | inl i => cases b with
    | inl j =>
      show PyData.eqv (.int i) (.int j) = _
      by_cases e : i = j
      · subst e; simp [PyData.eqv]
      · simp [PyData.eqv, e]
    | inr y => simp [keyD, D.eqv, D.toPy, PyData.eqv]
  | inr x => cases b with
    | inl j => simp [keyD, D.eqv, D.toPy, PyData.eqv]
    | inr y =>
      show PyData.eqv (.str x) (.str y) = _
      by_cases e : x = y
      · subst e; simp [PyData.eqv]
      · simp [PyData.eqv, e]
theorem Rep.key {key : Key} {v : V} (r : Rep k w (keyD key) v) : v = kV key := by
  cases key with
  | inl i => simp only [keyD, Rep] at r; exact r
  | inr s => simp only [keyD, Rep] at r; exact r.1
theorem RepP.length : ∀ {l : List (D × D)} {kvs : List (Key × V)}, RepP k w l kvs → l.length = kvs.length
  | [], kvs, r => by simp only [RepP] at r; subst r; rfl
  | (kd, d) :: l, kvs, r => by
    simp only [RepP] at r
    obtain ⟨key, v, vr, rfl, _, _, _, r⟩ := r
    simp [RepP.length r]
theorem RepP.get (key : Key) : ∀ {l : List (D × D)} {kvs : List (Key × V)}, RepP k w l kvs → (getK (keyD key) l = none ∧ valV kvs key = none) ∨ ∃ d v, getK (keyD key) l = some d ∧ valV kvs key = some v ∧ Rep k w d v
  | [], kvs, r => by simp only [RepP] at r; subst r; exact .inl ⟨rfl, rfl⟩
  | (kd, d) :: l, kvs, r => by
    simp only [RepP] at r
    obtain ⟨key2, v, vr, rfl, rfl, r0, r1, r⟩ := r
    simp only [getK, eqv_keyD]
    by_cases e : key2 = key
    · subst e
      right
      refine ⟨d, v, ?_, valV_pos rfl, r1⟩
      simp
    · rw [valV_neg (p := (key2, v)) e]
      simp only [e, decide_false, Bool.false_eq_true, if_false]
      exact RepP.get key r
theorem RepP.repl (key : Key) {d : D} {v : V} (rd : Rep k w d v) : ∀ {l : List (D × D)} {kvs : List (Key × V)}, RepP k w l kvs → (kvs.map (·.1)).Nodup → (valV kvs key).isSome = true → RepP k w (Dy.putK (keyD key) d l) (kvs.map fun kv => if kv.1 = key then (kv.1, v) else kv)
  | [], kvs, r, _, z => by simp only [RepP] at r; subst r; cases z
  | (kd, d0) :: l, kvs, r, nd, z => by
    simp only [RepP] at r
    obtain ⟨key2, v0, vr, rfl, rfl, r0, r1, r⟩ := r
    simp only [List.map_cons, List.nodup_cons] at nd
    simp only [Dy.putK, eqv_keyD]
    by_cases e : key2 = key
    · subst e
      have : (vr.map fun kv => if kv.1 = key2 then (kv.1, v) else kv) = vr := by
        refine (List.map_congr_left fun x hx => ?_).trans (List.map_id _)
        have : x.1 ≠ key2 := fun y => nd.1 (by rw [← y]; exact List.mem_map.mpr ⟨x, hx, rfl⟩)
        simp [this]
      simp only [decide_true, if_true, List.map_cons, this, RepP]
      exact ⟨key2, v, vr, rfl, rfl, r0, rd, r⟩
    · rw [valV_neg (p := (key2, v0)) e] at z
      simp only [e, decide_false, Bool.false_eq_true, if_false, List.map_cons, RepP]
      exact ⟨key2, v0, _, rfl, rfl, r0, r1, RepP.repl key rd r nd.2 z⟩
theorem RepP.snoc (key : Key) {d : D} {v : V} (rk : Rep k w (keyD key) (kV key)) (rd : Rep k w d v) : ∀ {l : List (D × D)} {kvs : List (Key × V)}, RepP k w l kvs → valV kvs key = none → RepP k w (Dy.putK (keyD key) d l) (kvs ++ [(key, v)])
  | [], kvs, r, _ => by
    simp only [RepP] at r; subst r
    simp only [Dy.putK, List.nil_append, RepP]
    exact ⟨key, v, [], rfl, rfl, rk, rd, rfl⟩
  | (kd, d0) :: l, kvs, r, z => by
    simp only [RepP] at r
    obtain ⟨key2, v0, vr, rfl, rfl, r0, r1, r⟩ := r
    by_cases e : key2 = key
    · rw [valV_pos (p := (key2, v0)) e] at z; cases z
    · rw [valV_neg (p := (key2, v0)) e] at z
      simp only [Dy.putK, eqv_keyD, e, decide_false, Bool.false_eq_true, if_false, List.cons_append, RepP]
      exact ⟨key2, v0, _, rfl, rfl, r0, r1, RepP.snoc key rk rd r z⟩
theorem RepP.put (key : Key) {d : D} {v : V} (rk : Rep k w (keyD key) (kV key)) (rd : Rep k w d v) {l : List (D × D)} {kvs : List (Key × V)} (r : RepP k w l kvs) (nd : (kvs.map (·.1)).Nodup) : RepP k w (Dy.putK (keyD key) d l) (L2.putK kvs key v) := by
  unfold L2.putK
  rw [valV_any]
  cases e : valV kvs key with
  | none => simp only [Option.isSome_none, Bool.false_eq_true, if_false]; exact RepP.snoc key rk rd r e
  | some x => simp only [Option.isSome_some, if_true]; exact RepP.repl key rd r nd (by rw [e]; rfl)
/-- a dict of ours, frozen or not -/
theorem WR.dct (q : WR k w h) {a : D} {l : List (D × D)} {x : V} (e : dctOf h a = some l) (r : Rep k w a x) : ∃ p o, x = .ref p ∧ w.H p = some o ∧ RepD k w p l o := by
  unfold dctOf at e
  split at e
  · cases e
    simp only [Rep] at r
    obtain ⟨p, o, e1, e2, r⟩ := r
    exact ⟨p, o, e1, e2.1, r⟩
  · split at e
    · cases e
      rename_i n _ e2
      obtain ⟨p, hp, o, h1, h2⟩ := q.at_ e2 rfl
      simp only [Rep] at r
      obtain ⟨_, b, e3, z⟩ := r
      have := z.1 p hp; subst this
      exact ⟨p, o, e3, h1, h2⟩
    · cases e
  · cases e
/-- .. its keys ints and texts -/
theorem RepD.sc {a : Addr} {l : List (D × D)} {o : HO} (r : RepD k w a l o) (hs : scK l = true) : ∃ kvs, o = .dK kvs ∧ RepP k w l kvs := by
  rcases r with r | ⟨ps, _, ne, r⟩
  · exact r
  · cases l with
    | nil => exact absurd rfl ne
    | cons p l =>
      obtain ⟨kd, d⟩ := p
      simp only [RepQ] at r
      obtain ⟨b, v, pr, _, it, _⟩ := r
      simp only [scK, List.all_cons, Bool.and_eq_true] at hs
      cases kd <;> first | (exact Bool.noConfusion it) | (cases hs.1)
/-- .. and so it stands -/
theorem WR.dctS (q : WR k w h) {a : D} {l : List (D × D)} {x : V} (e : dctOf h a = some l) (hs : scK l = true) (r : Rep k w a x) : ∃ p kvs, x = .ref p ∧ w.H p = some (.dK kvs) ∧ RepP k w l kvs := by
  obtain ⟨p, o, e1, e2, r⟩ := q.dct e r
  obtain ⟨kvs, rfl, r2⟩ := r.sc hs
  exact ⟨p, kvs, e1, e2, r2⟩
theorem homK_inv {x : D} {l : List (D × D)} (e : homK x l = true) : (∃ key, x = keyD key) ∧ scK l = true := by
  unfold homK at e
  split at e
  · rename_i hs; exact ⟨sc_keyD hs, e⟩
  · cases e
/-- x asked of a dict -/
theorem WR.dget (q : WR k w h) {a x : D} {l : List (D × D)} {u v : V} (e : dctOf h a = some l) (hk : homK x l = true) (ra : Rep k w a u) (rx : Rep k w x v) :
    ∃ p o, u = .ref p ∧ DGet w.H p v o ∧ ((getK x l = none ∧ o = none) ∨ ∃ d y, getK x l = some d ∧ o = some y ∧ Rep k w d y) := by
  obtain ⟨p, o, rfl, hp, r⟩ := q.dct e ra
  obtain ⟨⟨key, rfl⟩, hs⟩ := homK_inv hk
  obtain ⟨kvs, rfl, r2⟩ := r.sc hs
  have := rx.key; subst this
  exact ⟨p, valV kvs key, rfl, .k hp, by
    rcases RepP.get key r2 with ⟨y, z⟩ | ⟨d, y, z1, z2, z3⟩
    · exact .inl ⟨y, z⟩
    · exact .inr ⟨d, y, z1, z2, z3⟩⟩
/-- the end of o[i], o a dict -/
theorem sub_end {prog : Program} {w' : World} {A : Around} {E : Value → Shared → Prop} {s : Shared} {value slice : Expr} {d : Addr} {iv : Value} {Q : Value → Shared → Prop} (hT : s.TypeIs (.ref d) "dict")
    (hs : subscripted slice false (.ref d) iv = operate [.ref d, iv] (getItem (.ref d) iv)) (hq : wpAny (model prog w') A (getItem (.ref d) iv) Q E s) : wpAny (model prog w') A (subscriptTail value slice (.ref d) iv) Q E s := by
  unfold subscriptTail
  refine wpAny_bind ?_
  rw [getitemInPython_of_ne hT.not_modules]
  refine wpAny_bind (wpAny_specialOf hT PySem.F.slot_dict_getitem.lookup ?_)
  have go : wpAny (model prog w') A (subscripted slice false (.ref d) iv) (fun r s1 => wpAny (model prog w') A (letTemporaryGo value (.ref d) r >>= fun _ => pure r) Q E s1) E s := by
    rw [hs]
    exact wpAny_operating (wpAny_mono hq (fun r s1 z => wpAny_bind (wpAny_letTemporaryGo (wpAny_pure z))) fun _ _ z => z)
  first
    | exact wpAny_bind (wpAny_pure (wpAny_bind go))
    | exact wpAny_pure (wpAny_bind go)
    | exact wpAny_bind go
theorem getK_ne {x : D} {l : List (D × D)} (h : getK x l ≠ none) : l ≠ [] := fun z => by subst z; exact h rfl
end
end Dy
end

section
set_option linter.all false
set_option maxRecDepth 100000
set_option maxHeartbeats 1000000
set_option Elab.async false
/-! Dy: tuples made, told by their very object (it has no dict). -/
namespace Dy
open PySem PySem.Spec PyProof.Rows L2
section
variable {X : Cx} {pins : List (Addr × Obj)} {σ : L2.St} {H : Hp} {s : Shared}
/-- what is wanted of a new tuple -/
abbrev NewT (H : Hp) (Q : VK) (xs : List V) : Prop := ∀ (p : Addr) (o : Obj), H p = none → o.dict = none → Q (.ref p) (upd H p (.frz o (.tup xs)))
theorem laid_tup {xs : List V} {us : List Value} {t' : Nat} (J : Inv X pins σ H s) (rv : Vals xs us) (hz : xs.length ≤ sizeLine) :
    Inv X pins σ (upd H s.heap.objs.size (.frz { cls := .type "tuple", data := .seq us.toArray } (.tup xs))) { s with heap := s.heap.push { cls := .type "tuple", data := .seq us.toArray }, toks := t' } :=
  J.laid (fun _ _ z => Heap.get?_push_of_some _ z) (Nat.le_refl _) ⟨Heap.get?_push_size _ rfl, hz, us, rv, IsTup.new _ _⟩
theorem end_tup {xs : List V} {us : List Value} {t' : Nat} {Q : VK} (J : Inv X pins σ H s) (rv : Vals xs us) (hz : xs.length ≤ sizeLine) (q : NewT H Q xs) :
    EP X pins σ Q (.ref s.heap.objs.size) { s with heap := s.heap.push { cls := .type "tuple", data := .seq us.toArray }, toks := t' } :=
  ⟨.ref s.heap.objs.size, _, laid_tup J rv hz, rfl, q _ _ (J.hok.fresh (Nat.le_refl _)) rfl⟩
end
section
variable {X : Cx}
/-- a tuple's display -/
def tTupF (t : TA) : TE := fun σ H Q => t σ H fun xs H1 => xs.length ≤ sizeLine ∧ NewT H1 Q xs
theorem pe_tupF {es : List Expr} {pos : Pos} {c : Nat} {t : TA} (ha : PA X es t) : PE X (.Tuple es c pos) (tTupF t) := by
  refine ⟨fun pins s σ H Q I0 hq => wpAny_Tuple_spliced (thn (ha.run pos pins s σ H _ I0 hq) fun us s2 ⟨xs, H2, J, rv, hz, q⟩ => ⟨by rw [← rv.length]; exact hz, ?_⟩)⟩
  exact end_tup (t' := s2.toks) J rv hz q
/-- tuple(..) of a list, of a tuple -/
theorem call_tupF : CallR X (.type "tuple") (fun xs H Q => ∃ p ys, xs = [.ref p] ∧ ((SqL X.K H p ys ∧ NewT H Q ys) ∨ (SqT X.K H p ys ∧ Q (.ref p) H))) := by
  intro pins s σ H xs us Q J r ⟨p, ys, ex, hq⟩
  subst ex
  obtain ⟨u, rfl, ru⟩ := vals1 r
  cases ru
  rcases hq with ⟨hl, q⟩ | ⟨ht, q⟩
  · obtain ⟨its, rv, pl, hz⟩ := J.list hl
    refine call_tuple_list pl.isList (fun h' kp => ?_) (by rw [List.size_toArray, ← rv.length]; exact hz)
    exact end_tup (s := { s with heap := h' }) (t' := s.toks) (J.kept (t' := s.toks) kp) rv hz q
  · obtain ⟨its, rv, pl, hz⟩ := J.tuple ht
    exact call_tuple_same pl ⟨.ref p, H, J, rfl, q⟩
/-- t + u -/
def rCatF (K : PySem.W.Frag) : R2 := fun x y H Q => ∃ a b xs ys, x = .ref a ∧ y = .ref b ∧ SqT K H a xs ∧ SqT K H b ys ∧ xs.length + ys.length ≤ sizeLine ∧
  (xs = [] → Q (.ref b) H) ∧ (xs ≠ [] → ys = [] → Q (.ref a) H) ∧ (xs ≠ [] → ys ≠ [] → NewT H Q (xs ++ ys))
theorem op_catF : OpR X (binaryOp .Add) (rCatF X.K) := by
  intro pins s σ H x y v u Q J rx ry ⟨a, b, xs, ys, ex, ey, ha, hb, hz, q0, q1, q2⟩
  subst ex ey
  cases rx; cases ry
  obtain ⟨i1, r1, p1, _⟩ := J.tuple ha
  obtain ⟨i2, r2, p2, _⟩ := J.tuple hb
  by_cases hx : xs = []
  · subst hx
    cases r1
    exact cat_tup0 p1 p2 ⟨.ref b, H, J, rfl, q0 rfl⟩
  · refine HT.cat_tup p1 p2 (fun z => hx (r1.nil_iff.mp z)) (fun z => ⟨.ref a, H, J, rfl, q1 hx (r2.nil_iff.mp z)⟩) (fun z => ?_) (by rw [← r1.length, ← r2.length]; exact hz)
    exact end_tup (t' := s.toks) J (r1.append r2) (by rw [List.length_append]; exact hz) (q2 hx fun y => z (r2.nil_iff.mpr y))
/-- t[lo:hi] -/
def rSlF (K : PySem.W.Frag) : V → Option Int → Option Int → Hp → VK → Prop := fun x lo hi H Q => ∃ a xs, x = .ref a ∧ SqT K H a xs ∧
  (HT.sIx xs.length 0 lo = 0 ∧ HT.sIx xs.length xs.length hi = xs.length → Q (.ref a) H) ∧ (¬ (HT.sIx xs.length 0 lo = 0 ∧ HT.sIx xs.length xs.length hi = xs.length) → NewT H Q (cutV xs lo hi))
theorem sl_tupF : SlR X (rSlF X.K) := by
  intro pins s σ H x v vl vu lo hi sl Q J rx hs pl pu ⟨a, xs, ex, hx, q1, q2⟩
  subst ex
  cases rx
  obtain ⟨its, rv, ht, hz⟩ := J.tuple hx
  have hl : its.toArray.size = xs.length := by rw [List.size_toArray]; exact rv.length.symm
  refine ⟨"tuple", _, PyProof.Rows.slot_tuple_getitem.lookup, ht.typeIs, ?_⟩
  by_cases hw : HT.sIx xs.length 0 lo = 0 ∧ HT.sIx xs.length xs.length hi = xs.length
  · exact getItem_tuple_whole ht hs pl pu (by rw [hl]; exact hw) ⟨.ref a, H, J, rfl, q1 hw⟩
  · refine HT.getItem_tuple_cut ht hs pl pu (by rw [hl]; exact hw) ?_ (by rw [hl]; exact hz)
    rw [hl]
    exact end_tup (t' := s.toks) J ((rv.drop (HT.sIx xs.length 0 lo)).take (HT.sIx xs.length xs.length hi - HT.sIx xs.length 0 lo)) (Nat.le_trans (cutV_length xs lo hi) hz) (q2 hw)
end
end Dy
end

section
set_option linter.all false
set_option maxRecDepth 100000
set_option maxHeartbeats 1000000
set_option Elab.async false
namespace Dy
open PySem PySem.Spec PyProof.Rows L2
abbrev kX (X : Cx) (ca : Str → Addr) (ea : Ec) : Kx := ⟨X.K, X.prog, X.w, ca, ea⟩
section
variable {ca : Str → Addr} {ea : Ec}
variable {k : Kx} {W : Option WX} {X : Cx} {pos : Pos} {w : Wd} {h : Hh}
theorem sizeL_eq : sizeL = sizeLine := by rw [sizeLine_eq]; rfl
/-! ### what stands for a value -/
theorem Rep.intI {i : Int} {x : V} (r : Rep k w (.int i) x) : x = .int i := by simpa only [Rep] using r
theorem Rep.strI {i : Str} {x : V} (r : Rep k w (.str i) x) : x = .str i := by simp only [Rep] at r; exact r.1
theorem Rep.strK {i : Str} {x : V} (r : Rep k w (.str i) x) : sOk i = true := by simp only [Rep] at r; exact r.2
theorem sOk_len {i : Str} (h : sOk i = true) : i.length ≤ sizeLine := by
  simp only [sOk, Bool.and_eq_true, decide_eq_true_eq] at h
  rw [← sizeL_eq]; exact h.2
theorem sOk_cp {i : Str} (h : sOk i = true) : PyData.strOk i = true := by
  simp only [sOk, Bool.and_eq_true] at h; exact h.1
theorem Rep.blI {i : Bool} {x : V} (r : Rep k w (.bl i) x) : x = .bl i := by simpa only [Rep] using r
theorem Rep.nonI {x : V} (r : Rep k w .non x) : x = .non := by simpa only [Rep] using r
theorem Rep.tupI {l : List D} {x : V} (r : Rep k w (.tup l) x) : ∃ a vs, x = .ref a ∧ StT k.K w a vs ∧ RepL k w l vs := by simpa only [Rep] using r
theorem Rep.lstI {l : List D} {x : V} (r : Rep k w (.lst l) x) : ∃ a vs, x = .ref a ∧ (w.H a = some (.lst vs) ∧ ¬ w.L a) ∧ RepL k w l vs := by simpa only [Rep, StL] using r
theorem Rep.scrI {l : List Int} {x : V} (r : Rep k w (.scr l) x) : ∃ a, x = .ref a ∧ StS k.K w a (l.map V.int) := by simpa only [Rep] using r
theorem Rep.refI {n : Nat} {x : V} (r : Rep k w (.ref n) x) : ∃ a, x = .ref a := by simp only [Rep] at r; obtain ⟨_, a, e, _⟩ := r; exact ⟨a, e⟩
theorem Rep.int (i : Int) : Rep k w (.int i) (.int i) := by simp only [Rep]
theorem Rep.str {i : Str} (ok : sOk i = true) : Rep k w (.str i) (.str i) := by simp only [Rep]; exact ⟨trivial, ok⟩
theorem strOk_iff {s : Str} : PyData.strOk s = true ↔ ∀ c ∈ s.cps.toList, c < 1114112 := by
  unfold PyData.strOk
  rw [← Array.all_toList, List.all_eq_true]
  exact ⟨fun h c hc => of_decide_eq_true (h c hc), fun h c hc => decide_eq_true (h c hc)⟩
theorem sOk_iff {s : Str} : sOk s = true ↔ (∀ c ∈ s.cps.toList, c < 1114112) ∧ s.cps.toList.length ≤ sizeL := by
  have e : s.length = s.cps.toList.length := by simp [Str.length]
  simp only [sOk, Bool.and_eq_true, decide_eq_true_eq, strOk_iff, e]
theorem cps_append (a b : Str) : (a ++ b).cps.toList = a.cps.toList ++ b.cps.toList := by show (a.cps ++ b.cps).toList = _; simp
theorem sOk_append {a b : Str} (ha : sOk a = true) (hb : sOk b = true) (hz : a.length + b.length ≤ sizeL) : sOk (a ++ b) = true := by
  rw [sOk_iff] at *
  rw [cps_append]
  refine ⟨fun c hc => (List.mem_append.mp hc).elim (ha.1 c) (hb.1 c), ?_⟩
  rw [List.length_append]
  simpa [Str.length] using hz
theorem sOk_sub {a : Str} {l : List Nat} (ha : sOk a = true) (hl : l.Sublist a.cps.toList) : sOk ⟨l.toArray⟩ = true := by
  rw [sOk_iff] at *
  exact ⟨fun c hc => ha.1 c (hl.subset (by simpa using hc)), Nat.le_trans (by simpa using hl.length_le) ha.2⟩
theorem sOk_one {c : Nat} (h : c < 1114112) : sOk ⟨#[c]⟩ = true := by
  rw [sOk_iff]
  exact ⟨fun d hd => by have : d = c := by simpa using hd
                        omega, (by show 1 ≤ 16777216; omega)⟩
theorem Rep.bl (i : Bool) : Rep k w (.bl i) (.bl i) := by simp only [Rep]
theorem Rep.non : Rep k w .non .non := by simp only [Rep]
/-- a list that may be read, written or not -/
theorem WR.list (q : WR k w h) {a : D} {l : List D} {x : V} (e : seqOf h a = some l) (nt : ∀ m, a ≠ .tup m) (r : Rep k w a x) : ∃ p vs, x = .ref p ∧ w.H p = some (.lst vs) ∧ RepL k w l vs := by
  cases a <;> simp only [seqOf] at e <;> try (cases e; done)
  · exact absurd rfl (nt _)
  · cases e
    obtain ⟨p, vs, e1, ⟨e2, _⟩, r2⟩ := r.lstI
    exact ⟨p, vs, e1, e2, r2⟩
  · rename_i n
    split at e
    · rename_i l' e'
      cases e
      obtain ⟨p, vs, e1, _, e2, r2⟩ := q.lst e' r
      exact ⟨p, vs, e1, e2, r2⟩
    · cases e
/-- a sequence that may be read -/
theorem WR.seq (q : WR k w h) {a : D} {l : List D} {x : V} (e : seqOf h a = some l) (r : Rep k w a x) : ∃ p vs, x = .ref p ∧ (SqL k.K w.H p vs ∨ SqT k.K w.H p vs) ∧ RepL k w l vs := by
  by_cases nt : ∀ m, a ≠ .tup m
  · obtain ⟨p, vs, e1, e2, r2⟩ := q.list e nt r
    exact ⟨p, vs, e1, .inl (SqL.of e2), r2⟩
  · have : ∃ m, a = .tup m := by
      cases a <;> first | exact ⟨_, rfl⟩ | exact absurd (fun m z => by cases z) nt
    obtain ⟨m, rfl⟩ := this
    simp only [seqOf] at e; cases e
    obtain ⟨p, vs, e1, e2, r2⟩ := r.tupI
    exact ⟨p, vs, e1, .inr e2.sq, r2⟩
theorem bad_elim {α β : Type} {Rl : Wd → α → β → Prop} {σV : L2.St} {Q : β → Hp → Prop} {P : Prop} (p : post k W Rl w σV .bad Q) : P := False.elim p

/-! ### + - * // % ** -/
theorem addL_post {m : Bool} {x y : V} {la lb : Option (List D)} {σV : L2.St} {Q : VK} (q : WR k w h) (ea : ∀ l, la = some l → ∃ p vs, x = .ref p ∧ w.H p = some (.lst vs) ∧ RepL k w l vs)
    (eb : ∀ l, lb = some l → ∃ p vs, y = .ref p ∧ w.H p = some (.lst vs) ∧ RepL k w l vs) (p : post k W (Rep k) w σV (addL m la lb h) Q) : rCat x y w.H Q := by
  cases la with
  | none => exact False.elim p
  | some l =>
    cases lb with
    | none => exact False.elim p
    | some l' =>
      simp only [addL] at p
      split at p
      · rename_i hz
        obtain ⟨a, vs, rfl, h1, r1⟩ := ea l rfl
        obtain ⟨b, us, rfl, h2, r2⟩ := eb l' rfl
        refine ⟨a, b, vs, us, rfl, rfl, h1, h2, by rw [← r1.length, ← r2.length, ← sizeL_eq]; exact hz, fun c hc => p.lst q (r1.append r2) hc⟩
      · exact False.elim p
theorem op_addD {m : Bool} : OpR X (binaryOp .Add) (r2 (kX X ca ea) W (binD m .add)) := by
  intro pins s σ H x y v u Q I rx ry ⟨w, h, a, b, σV, e, q, ra, rb, p⟩
  subst e
  cases a <;> first | exact False.elim p | (cases b <;> first | exact False.elim p | skip)
  · rename_i i j
    cases ra.intI; cases rb.intI
    exact op_add pins s σ _ _ _ v u Q I rx ry ⟨i, j, rfl, rfl, p.here q (Rep.int _)⟩
  · rename_i i j
    have ka := ra.strK; have kb := rb.strK
    cases ra.strI; cases rb.strI
    simp only [binD] at p
    split at p
    · rename_i hz
      exact op_add_str pins s σ _ _ _ v u Q I rx ry ⟨i, j, rfl, rfl, by rw [← sizeL_eq]; exact hz, p.here q (Rep.str (sOk_append ka kb hz))⟩
    · exact False.elim p
  · rename_i l l'
    simp only [binD] at p
    split at p
    · rename_i hz
      obtain ⟨a, vs, rfl, h1, r1⟩ := ra.tupI
      obtain ⟨b, us, rfl, h2, r2⟩ := rb.tupI
      have e1 := r1.length
      have e2 := r2.length
      refine op_catF pins s σ _ _ _ v u Q I rx ry ⟨a, b, vs, us, rfl, rfl, h1.sq, h2.sq, by rw [← e1, ← e2, ← sizeL_eq]; exact hz, fun z => ?_, fun _ z => ?_, fun _ _ c o hc ho => p.tup q (r1.append r2) hc ho⟩
      · have : l = [] := by rw [z] at e1; exact List.eq_nil_of_length_eq_zero (by simpa using e1)
        subst this
        exact p.here q rb
      · have : l' = [] := by rw [z] at e2; exact List.eq_nil_of_length_eq_zero (by simpa using e2)
        subst this
        rw [List.append_nil] at p
        exact p.here q ra
    · exact False.elim p
  all_goals exact op_cat pins s σ _ _ _ v u Q I rx ry (addL_post q (fun l e => q.list (by first | exact e | simpa only [seqOf] using e) (fun m z => by cases z) ra) (fun l e => q.list (by first | exact e | simpa only [seqOf] using e) (fun m z => by cases z) rb) p)
theorem op_subD {m : Bool} : OpR X (binaryOp .Sub) (r2 (kX X ca ea) W (binD m .sub)) := by
  intro pins s σ H x y v u Q I rx ry ⟨w, h, a, b, σV, e, q, ra, rb, p⟩
  subst e
  cases a <;> first | exact False.elim p | (cases b <;> first | exact False.elim p | skip)
  rename_i i j
  cases ra.intI; cases rb.intI
  exact op_sub pins s σ _ _ _ v u Q I rx ry ⟨i, j, rfl, rfl, p.here q (Rep.int _)⟩
theorem op_modD {m : Bool} : OpR X (binaryOp .Mod) (r2 (kX X ca ea) W (binD m .mod)) := by
  intro pins s σ H x y v u Q I rx ry ⟨w, h, a, b, σV, e, q, ra, rb, p⟩
  subst e
  cases a <;> first | exact False.elim p | (cases b <;> first | exact False.elim p | skip)
  rename_i i j
  cases ra.intI; cases rb.intI
  simp only [binD] at p
  split at p
  · rename_i hc
    exact op_mod pins s σ _ _ _ v u Q I rx ry ⟨i, j, rfl, rfl, hc, p.here q (Rep.int _)⟩
  · exact False.elim p
theorem op_fdivD {m : Bool} : OpR X (binaryOp .FloorDiv) (r2 (kX X ca ea) W (binD m .fdiv)) := by
  intro pins s σ H x y v u Q I rx ry ⟨w, h, a, b, σV, e, q, ra, rb, p⟩
  subst e
  cases a <;> first | exact False.elim p | (cases b <;> first | exact False.elim p | skip)
  rename_i i j
  cases ra.intI; cases rb.intI
  simp only [binD] at p
  split at p
  · rename_i hc
    exact op_fdiv pins s σ _ _ _ v u Q I rx ry ⟨i, j, rfl, rfl, hc, p.here q (Rep.int _)⟩
  · exact False.elim p
theorem op_powD {m : Bool} : OpR X (binaryOp .Pow) (r2 (kX X ca ea) W (binD m .pow)) := by
  intro pins s σ H x y v u Q I rx ry ⟨w, h, a, b, σV, e, q, ra, rb, p⟩
  subst e
  cases a <;> first | exact False.elim p | (cases b <;> first | exact False.elim p | skip)
  rename_i i j
  cases ra.intI; cases rb.intI
  simp only [binD] at p
  split at p
  · rename_i hc
    exact op_pow pins s σ _ _ _ v u Q I rx ry ⟨i, j, rfl, rfl, ⟨hc.1, hc.2.1, by have := hc.2.2; omega⟩, p.here q (Rep.int _)⟩
  · exact False.elim p
theorem repL_some {α : Type} {x l : List α} {j : Int} (e : repL x j = some l) : (-(2 ^ 63) ≤ j ∧ j < 2 ^ 63 ∧ x.length * j.toNat ≤ sizeLine) ∧ l = (List.replicate j.toNat x).flatten := by
  unfold repL at e
  split at e
  · rename_i hc
    cases e
    rw [sizeL_eq] at hc
    exact ⟨⟨by omega, by omega, hc.2.2⟩, rfl⟩
  · cases e
theorem rep_str_gen : True := trivial
theorem op_mulD {m : Bool} : OpR X (binaryOp .Mult) (r2 (kX X ca ea) W (binD m .mul)) := by
  intro pins s σ H x y v u Q I rx ry ⟨w, h, a, b, σV, e, q, ra, rb, p⟩
  subst e
  cases a <;> first | exact False.elim p | (cases b <;> first | exact False.elim p | skip)
  · rename_i i j
    cases ra.intI; cases rb.intI
    simp only [binD] at p
    split at p
    · rename_i hc
      refine op_mul pins s σ _ _ _ v u Q I rx ry ⟨i, j, rfl, rfl, ?_, p.here q (Rep.int _)⟩
      have e : pow64 = 2 ^ 64 := by decide
      simp only [mulOk, e, Bool.or_eq_true, Bool.and_eq_true, decide_eq_true_eq] at hc
      exact hc
    · exact False.elim p
  · rename_i x' j
    have kk := ra.strK
    cases ra.strI; cases rb.intI
    simp only [binD] at p
    split at p
    · rename_i hc
      obtain ⟨c0, c1, c2⟩ := hc
      have hsz : sizeLine = 16777216 := sizeLine_eq
      have hlen : ∀ n : Nat, ((List.replicate n x'.cps.toList).flatten).length = n * x'.length := fun n => by
        simp [Str.length]
      have hle : j.toNat * x'.length ≤ 1000 * 1000 := Nat.mul_le_mul (by omega) c2
      have ok : sOk ⟨(List.replicate j.toNat x'.cps.toList).flatten.toArray⟩ = true := by
        rw [sOk_iff] at kk ⊢
        refine ⟨fun c hc => ?_, ?_⟩
        · have hc : c ∈ (List.replicate j.toNat x'.cps.toList).flatten := by simpa using hc
          obtain ⟨l, hl, hc⟩ := List.mem_flatten.mp hc
          rw [(List.mem_replicate.mp hl).2] at hc
          exact kk.1 c hc
        · show ((List.replicate j.toNat x'.cps.toList).flatten).length ≤ 16777216
          rw [hlen]; omega
      have fold : ∀ (n : Nat) (acc : Array Nat), (List.replicate n x'.cps).foldl (· ++ ·) acc = ⟨acc.toList ++ (List.replicate n x'.cps.toList).flatten⟩ := fun n => by
        induction n with
        | zero => intro acc; simp
        | succ n ih => intro acc; simp only [List.replicate_succ, List.foldl_cons, ih, List.flatten_cons, Array.toList_append, List.append_assoc]
      have e : Txt.mul x' j = ⟨(List.replicate j.toNat x'.cps.toList).flatten.toArray⟩ := by
        unfold Txt.mul
        split
        · have : j.toNat = 0 := by omega
          rw [this]; rfl
        · split
          · rename_i h1 h2
            simp only [Bool.or_eq_true, beq_iff_eq] at h2
            rcases h2 with h2 | h2
            · subst h2; simp
            · have : x'.cps.toList = [] := by
                have : x'.cps.toList.length = 0 := by simpa [Str.length] using h2
                exact List.eq_nil_of_length_eq_zero this
              have e0 : x' = ⟨[].toArray⟩ := by
                cases x'; simp at this; subst this; rfl
              rw [e0]; simp
          · rw [fold]; simp
      obtain ⟨t1, rfl⟩ := rx
      obtain ⟨t2, rfl⟩ := ry
      have mo : MulOk x' j := by
        refine ⟨?_, fun h1 _ => ?_, fun h1 _ => ?_⟩
        · have a1 : ¬ j < -(2 ^ 63 : Int) := by omega
          have a2 : ¬ j ≥ 2 ^ 63 := by omega
          rw [decide_eq_false a1, decide_eq_false a2]; rfl
        · have : (x'.length : Int) ≤ (2 ^ 63 - 1) / j := by
            rw [Int.le_ediv_iff_mul_le (by omega)]
            have : (x'.length : Int) * j ≤ 1000 * 1000 := Int.mul_le_mul (by omega) c1 (by omega) (by omega)
            omega
          omega
        · have : x'.length * j.toNat ≤ 1000 * 1000 := by rw [Nat.mul_comm]; exact hle
          unfold Builtin.Str.tooLong
          rw [hsz]
          exact decide_eq_false (by omega)
      have p := p.here q (Rep.str ok)
      rw [← e] at p
      exact SB.mul mo fun t' k => ⟨.str _, _, I.tok k, ⟨t', rfl⟩, p⟩
    · exact False.elim p
  · rename_i l j
    cases rb.intI
    simp only [binD] at p
    split at p
    · rename_i l' e
      obtain ⟨⟨h1, h2, h3⟩, rfl⟩ := repL_some e
      obtain ⟨a, vs, rfl, ⟨g1, _⟩, r1⟩ := ra.lstI
      exact op_rep pins s σ _ _ _ v u Q I rx ry ⟨a, j, vs, rfl, rfl, g1, h1, h2, by rw [← r1.length]; exact h3, fun c hc => p.lst q (r1.flat _) hc⟩
    · exact False.elim p
/-! ### comparisons -/
mutual
theorem Rep.dp : ∀ (d : D) (v : V) (n : Nat), Rep (kX X ca ea) w d v → d.pl n = true → Dp X.K w.H v d.toPy ∧ d.toPy.canLay0 = true ∧ d.toPy.depth ≤ n
  | .non, v, n, r, _ => by cases r.nonI; exact ⟨.non, rfl, Nat.zero_le _⟩
  | .bl b, v, n, r, _ => by cases r.blI; exact ⟨.bl b, rfl, Nat.zero_le _⟩
  | .int b, v, n, r, _ => by cases r.intI; exact ⟨.int b, rfl, Nat.zero_le _⟩
  | .str b, v, n, r, _ => by have kb := r.strK; cases r.strI; exact ⟨.str b, by simpa only [D.toPy, PyData.canLay0] using sOk_cp kb, Nat.zero_le _⟩
  | .tup l, v, n, r, hp => by
    obtain ⟨a, vs, rfl, h1, r1⟩ := r.tupI
    cases n with
    | zero => cases hp
    | succ n =>
      obtain ⟨g1, g2, g3⟩ := RepL.dp l vs n r1 (by simpa only [D.pl] using hp)
      refine ⟨.tup h1.sq g1, by simpa only [D.toPy, PyData.canLay0] using g2, ?_⟩
      simp only [D.toPy, PyData.depth]; omega
  | .lst l, v, n, r, hp => by
    obtain ⟨a, vs, rfl, h1, r1⟩ := r.lstI
    cases n with
    | zero => cases hp
    | succ n =>
      obtain ⟨g1, g2, g3⟩ := RepL.dp l vs n r1 (by simpa only [D.pl] using hp)
      refine ⟨.lst (SqL.of h1.1) g1, by simpa only [D.toPy, PyData.canLay0] using g2, ?_⟩
      simp only [D.toPy, PyData.depth]; omega
  | .dct _, v, n, r, hp => by cases hp
  | .set _, v, n, r, hp => by cases hp
  | .ref _, v, n, r, hp => by cases hp
  | .exc _ _, v, n, r, hp => by cases hp
  | .scr _, v, n, r, hp => by cases hp
  | .pr _ _, v, n, r, hp => by cases hp
theorem RepL.dp : ∀ (l : List D) (vs : List V) (n : Nat), RepL (kX X ca ea) w l vs → D.plL l n = true → DpAll X.K w.H vs (D.toPyL l) ∧ PyData.canLayAll0 (D.toPyL l) = true ∧ PyData.depthAll (D.toPyL l) ≤ n
  | [], vs, n, r, _ => by simp only [RepL] at r; subst r; exact ⟨.nil, rfl, Nat.zero_le _⟩
  | d :: r, vs, n, q, hp => by
    simp only [RepL] at q
    obtain ⟨v, vr, rfl, h1, h2⟩ := q
    simp only [D.plL, Bool.and_eq_true] at hp
    obtain ⟨g1, g2, g3⟩ := Rep.dp d v n h1 hp.1
    obtain ⟨f1, f2, f3⟩ := RepL.dp r vr n h2 hp.2
    refine ⟨.cons g1 f1, by simp only [D.toPyL, PyData.canLayAll0, Bool.and_eq_true]; exact ⟨g2, f2⟩, ?_⟩
    simp only [D.toPyL, PyData.depthAll]; omega
end
theorem Rep.shaped {d : D} {v : V} (r : Rep (kX X ca ea) w d v) (hp : d.py = true) : Dp X.K w.H v d.toPy ∧ SeqAt.shaped d.toPy = true := by
  obtain ⟨g1, g2, g3⟩ := Rep.dp d v 60 r hp
  refine ⟨g1, ?_⟩
  unfold SeqAt.shaped
  simp only [Bool.and_eq_true, decide_eq_true_eq]
  exact ⟨g2, by omega⟩
theorem Rep.res {h : Hh} (q : WR (kX X ca ea) w h) {a : D} {x : V} (r : Rep (kX X ca ea) w a x) (hp : (res h a).py = true) : Dp X.K w.H x (res h a).toPy ∧ SeqAt.shaped (res h a).toPy = true := by
  cases a <;> try exact r.shaped hp
  rename_i n
  simp only [Dy.res] at hp ⊢
  split at hp
  · rename_i l e
    obtain ⟨p, vs, rfl, _, h1, r1⟩ := q.lst e r
    obtain ⟨g1, g2, g3⟩ := RepL.dp l vs 59 r1 (by simpa only [D.py, D.pl] using hp)
    refine ⟨.lst (SqL.of h1) g1, ?_⟩
    unfold SeqAt.shaped
    simp only [Bool.and_eq_true, decide_eq_true_eq, D.toPy, PyData.canLay0, PyData.depth]
    exact ⟨g2, by omega⟩
  · cases hp
/-- a comparison's answer -/
abbrev cmpR (o : Co) (a b : D) (h : Hh) : R D := (R.opt (cmpD h o a b) h).bind fun k h => .ok (.bl k) h
theorem eqD_cases {h : Hh} {a b : D} {c : Bool} {x y : V} (e : eqD h a b = some c) (ra : Rep (kX X ca ea) w a x) (rb : Rep (kX X ca ea) w b y) : (Dy.res h a).py = true ∧ (Dy.res h b).py = true ∧ c = D.eqv (Dy.res h a) (Dy.res h b) := by
  unfold eqD at e
  split at e
  · simp only [Rep] at ra
  · split at e
    · rename_i hp
      cases e
      exact ⟨(Bool.and_eq_true_iff.mp hp).1, (Bool.and_eq_true_iff.mp hp).2, rfl⟩
    · cases e
theorem op_eqDD (hu : X.A.units + 64 < cLine) : OpR X (compareOp .Eq) (r2 (kX X ca ea) W (cmpR .eq)) := by
  intro pins s σ H x y v u Q I rx ry ⟨w, h, a, b, σV, e, q, ra, rb, p⟩
  subst e
  simp only [cmpR, cmpD] at p
  cases e : eqD h a b with
  | none => rw [e] at p; exact False.elim p
  | some c =>
    rw [e] at p
    obtain ⟨h1, h2, rfl⟩ := eqD_cases e ra rb
    obtain ⟨d1, s1⟩ := Rep.res q ra h1
    obtain ⟨d2, s2⟩ := Rep.res q rb h2
    exact op_eqD hu pins s σ _ _ _ v u Q I rx ry ⟨_, _, d1, d2, s1, s2, p.here q (Rep.bl _)⟩
theorem op_neDD (hu : X.A.units + 64 < cLine) : OpR X (compareOp .NotEq) (r2 (kX X ca ea) W (cmpR .ne)) := by
  intro pins s σ H x y v u Q I rx ry ⟨w, h, a, b, σV, e, q, ra, rb, p⟩
  subst e
  simp only [cmpR, cmpD] at p
  cases e : eqD h a b with
  | none => rw [e] at p; exact False.elim p
  | some c =>
    rw [e] at p
    obtain ⟨h1, h2, rfl⟩ := eqD_cases e ra rb
    obtain ⟨d1, s1⟩ := Rep.res q ra h1
    obtain ⟨d2, s2⟩ := Rep.res q rb h2
    exact op_neD hu pins s σ _ _ _ v u Q I rx ry ⟨_, _, d1, d2, s1, s2, p.here q (Rep.bl _)⟩
theorem op_leD : OpR X (compareOp .LtE) (r2 (kX X ca ea) W (cmpR .le)) := by
  intro pins s σ H x y v u Q I rx ry ⟨w, h, a, b, σV, e, q, ra, rb, p⟩
  subst e
  cases a <;> first | exact False.elim p | (cases b <;> first | exact False.elim p | skip)
  cases ra.intI; cases rb.intI
  exact op_le pins s σ _ _ _ v u Q I rx ry ⟨_, _, rfl, rfl, p.here q (Rep.bl _)⟩
theorem op_gtD : OpR X (compareOp .Gt) (r2 (kX X ca ea) W (cmpR .gt)) := by
  intro pins s σ H x y v u Q I rx ry ⟨w, h, a, b, σV, e, q, ra, rb, p⟩
  subst e
  cases a <;> first | exact False.elim p | (cases b <;> first | exact False.elim p | skip)
  cases ra.intI; cases rb.intI
  exact op_gt pins s σ _ _ _ v u Q I rx ry ⟨_, _, rfl, rfl, p.here q (Rep.bl _)⟩
theorem op_geD : OpR X (compareOp .GtE) (r2 (kX X ca ea) W (cmpR .ge)) := by
  intro pins s σ H x y v u Q I rx ry ⟨w, h, a, b, σV, e, q, ra, rb, p⟩
  subst e
  cases a <;> first | exact False.elim p | (cases b <;> first | exact False.elim p | skip)
  cases ra.intI; cases rb.intI
  exact op_ge pins s σ _ _ _ v u Q I rx ry ⟨_, _, rfl, rfl, p.here q (Rep.bl _)⟩
theorem op_ltD : OpR X (compareOp .Lt) (r2 (kX X ca ea) W (cmpR .lt)) := by
  intro pins s σ H x y v u Q I rx ry ⟨w, h, a, b, σV, e, q, ra, rb, p⟩
  subst e
  cases a <;> first | exact False.elim p | (cases b <;> first | exact False.elim p | skip)
  · cases ra.intI; cases rb.intI
    exact op_lt pins s σ _ _ _ v u Q I rx ry ⟨_, _, rfl, rfl, p.here q (Rep.bl _)⟩
  · cases ra.strI; cases rb.strI
    exact op_lt_str pins s σ _ _ _ v u Q I rx ry ⟨_, _, rfl, rfl, p.here q (Rep.bl _)⟩
/-! in, not in -/
theorem in_cases {h : Hh} (q : WR (kX X ca ea) w h) {x : D} {c : D} {b : Bool} {u v : V} (e : inD h x c = some b) (rx : Rep (kX X ca ea) w x u) (rc : Rep (kX X ca ea) w c v) :
    (∃ y z, c = .str y ∧ x = .str z ∧ b = !(Builtin.Str.occurrences y z 0 y.length 1).isEmpty) ∨
    (∃ l a vs, v = .ref a ∧ ((SqL X.K w.H a vs ∧ true) ∨ (SqT X.K w.H a vs ∧ true)) ∧ RepL (kX X ca ea) w l vs ∧ x.py = true ∧ D.pyL l = true ∧ b = hasD x l) ∨ ∃ p o, v = .ref p ∧ DGet w.H p u o ∧ b = o.isSome := by
  cases c <;> simp only [inD] at e <;> try (cases e; done)
  · rename_i y
    split at e
    · cases e; exact .inl ⟨_, _, rfl, rfl, rfl⟩
    · cases e
  · split at e
    · rename_i hp
      cases e
      obtain ⟨a, vs, e1, e2, r2⟩ := rc.tupI
      exact .inr (.inl ⟨_, a, vs, e1, .inr ⟨e2.sq, rfl⟩, r2, (Bool.and_eq_true_iff.mp hp).1, (Bool.and_eq_true_iff.mp hp).2, rfl⟩)
    · cases e
  · split at e
    · rename_i hp
      cases e
      obtain ⟨a, vs, e1, e2, r2⟩ := rc.lstI
      exact .inr (.inl ⟨_, a, vs, e1, .inl ⟨SqL.of e2.1, rfl⟩, r2, (Bool.and_eq_true_iff.mp hp).1, (Bool.and_eq_true_iff.mp hp).2, rfl⟩)
    · cases e
  · split at e
    · rename_i hk
      cases e
      obtain ⟨p, o, e1, g, z⟩ := q.dget (a := .dct _) rfl hk rc rx
      exact .inr (.inr ⟨p, o, e1, g, by rcases z with ⟨y, rfl⟩ | ⟨d, y, z1, rfl, _⟩ <;> simp [*]⟩)
    · cases e
  · simp only [Rep] at rc
  · rename_i n
    split at e
    · rename_i l e'
      split at e
      · rename_i hp
        cases e
        obtain ⟨a, vs, e1, _, e2, r2⟩ := q.lst e' rc
        exact .inr (.inl ⟨_, a, vs, e1, .inl ⟨SqL.of e2, rfl⟩, r2, (Bool.and_eq_true_iff.mp hp).1, (Bool.and_eq_true_iff.mp hp).2, rfl⟩)
      · cases e
    · rename_i l e'
      split at e
      · rename_i hk
        cases e
        obtain ⟨p, o, e1, g, z⟩ := q.dget (a := .ref n) (l := l) (by simp only [dctOf, e']) hk rc rx
        exact .inr (.inr ⟨p, o, e1, g, by rcases z with ⟨y, rfl⟩ | ⟨d, y, z1, rfl, _⟩ <;> simp [*]⟩)
      · cases e
    · cases e
theorem hasD_py (x : D) : ∀ l : List D, ((D.toPyL l).any fun y => PyData.eqv y x.toPy) = hasD x l
  | [] => rfl
  | d :: r => by
    simp only [D.toPyL, List.any_cons, hasD, hasD_py x r, D.eqv]
theorem op_inD (hu : X.A.units + 100 < cLine) : OpR X (compareOp .In) (r2 (kX X ca ea) W (cmpR .in_)) := by
  intro pins s σ H x y v u Q I rx ry ⟨w, h, a, b, σV, e, q, ra, rb, p⟩
  subst e
  simp only [cmpR, cmpD] at p
  cases e : inD h a b with
  | none => rw [e] at p; exact False.elim p
  | some c =>
    rw [e] at p
    have p := p.here q (Rep.bl c)
    rcases in_cases q e ra rb with ⟨y', z', rfl, rfl, rfl⟩ | ⟨l, ad, vs, rfl, hs, rl, h1, h2, rfl⟩ | ⟨pd, od, rfl, g, rfl⟩
    · cases ra.strI; cases rb.strI
      exact op_in_str pins s σ _ _ _ v u Q I rx ry ⟨_, _, rfl, rfl, p⟩
    · obtain ⟨g1, g2, g3⟩ := Rep.dp a x 60 ra h1
      obtain ⟨f1, f2, f3⟩ := RepL.dp l vs 59 rl h2
      obtain ⟨as, rd⟩ := Dp.reads I _ _ _ g1 rx
      rw [← hasD_py] at p
      rcases hs with ⟨hs, _⟩ | ⟨hs, _⟩
      · obtain ⟨bs, rc⟩ := Dp.reads I (.list (D.toPyL l)) _ _ (.lst hs f1) ry
        exact SeqAt.in_list_reads rc rd f2 g2 (by omega) ⟨.bl _, _, I, rfl, p⟩
      · obtain ⟨bs, rc⟩ := Dp.reads I (.tuple (D.toPyL l)) _ _ (.tup hs f1) ry
        exact SeqAt.in_tuple_reads rc rd f2 g2 (by omega) ⟨.bl _, _, I, rfl, p⟩
    · obtain rfl : u = Value.ref pd := ry
      exact d_in (by omega) I g rx fun s3 I3 => ⟨.bl od.isSome, _, I3, rfl, p⟩
theorem op_ninD (hu : X.A.units + 100 < cLine) : OpR X (compareOp .NotIn) (r2 (kX X ca ea) W (cmpR .nin)) := by
  intro pins s σ H x y v u Q I rx ry ⟨w, h, a, b, σV, e, q, ra, rb, p⟩
  subst e
  simp only [cmpR, cmpD] at p
  cases e : inD h a b with
  | none => rw [e] at p; exact False.elim p
  | some c =>
    rw [e] at p
    have p := p.here q (Rep.bl (!c))
    rcases in_cases q e ra rb with ⟨y', z', rfl, rfl, rfl⟩ | ⟨l, ad, vs, rfl, hs, rl, h1, h2, rfl⟩ | ⟨pd, od, rfl, g, rfl⟩
    · cases ra.strI; cases rb.strI
      exact op_notin_str pins s σ _ _ _ v u Q I rx ry ⟨_, _, rfl, rfl, p⟩
    · obtain ⟨g1, g2, g3⟩ := Rep.dp a x 60 ra h1
      obtain ⟨f1, f2, f3⟩ := RepL.dp l vs 59 rl h2
      obtain ⟨as, rd⟩ := Dp.reads I _ _ _ g1 rx
      rw [← hasD_py] at p
      rcases hs with ⟨hs, _⟩ | ⟨hs, _⟩
      · obtain ⟨bs, rc⟩ := Dp.reads I (.list (D.toPyL l)) _ _ (.lst hs f1) ry
        exact SeqAt.notIn_list_reads rc rd f2 g2 (by omega) ⟨.bl _, _, I, rfl, p⟩
      · obtain ⟨bs, rc⟩ := Dp.reads I (.tuple (D.toPyL l)) _ _ (.tup hs f1) ry
        exact SeqAt.notIn_tuple_reads rc rd f2 g2 (by omega) ⟨.bl _, _, I, rfl, p⟩
    · obtain rfl : u = Value.ref pd := ry
      exact d_notIn (by omega) I g rx fun s3 I3 => ⟨.bl (!od.isSome), _, I3, rfl, p⟩
/-! is None, is True -/
theorem isNon_eq {a : D} {x : V} (ra : Rep k w a x) : a.isNon = decide (x = V.non) := by
  cases a
  · cases ra.nonI; rfl
  · cases ra.blI; rfl
  · cases ra.intI; rfl
  · cases ra.strI; rfl
  · obtain ⟨_, _, rfl, _⟩ := ra.tupI; rfl
  · obtain ⟨_, _, rfl, _⟩ := ra.lstI; rfl
  · simp only [Rep] at ra
    obtain ⟨_, _, rfl, _⟩ := ra; rfl
  · simp only [Rep] at ra
  · obtain ⟨_, rfl⟩ := ra.refI; rfl
  · simp only [Rep] at ra
  · obtain ⟨_, rfl, _⟩ := ra.scrI; rfl
  · simp only [Rep] at ra
    obtain ⟨_, _, _, rfl, _⟩ := ra; rfl
theorem op_isD : OpR X (compareOp .Is) (r2 (kX X ca ea) W (cmpR .is_)) := by
  intro pins s σ H x y v u Q I rx ry ⟨w, h, a, b, σV, e, q, ra, rb, p⟩
  subst e
  cases b <;> first | exact False.elim p | skip
  · cases rb.nonI
    refine op_isN pins s σ _ _ _ v u Q I rx ry ⟨rfl, ?_⟩
    rw [← isNon_eq ra]
    have p : post (kX X ca ea) W (Rep (kX X ca ea)) w σV (.ok (.bl a.isNon) h) Q := by
      cases a <;> exact p
    exact p.here q (Rep.bl _)
  · rename_i c
    cases a <;> first | exact False.elim p | skip
    cases rb.blI; cases ra.blI
    exact op_isBl pins s σ _ _ _ v u Q I rx ry ⟨_, _, rfl, rfl, p.here q (Rep.bl _)⟩
theorem op_isnD : OpR X (compareOp .IsNot) (r2 (kX X ca ea) W (cmpR .isn)) := by
  intro pins s σ H x y v u Q I rx ry ⟨w, h, a, b, σV, e, q, ra, rb, p⟩
  subst e
  cases b <;> first | exact False.elim p | skip
  · cases rb.nonI
    refine op_notN pins s σ _ _ _ v u Q I rx ry ⟨rfl, ?_⟩
    rw [← isNon_eq ra]
    have p : post (kX X ca ea) W (Rep (kX X ca ea)) w σV (.ok (.bl (!a.isNon)) h) Q := by
      cases a <;> exact p
    exact p.here q (Rep.bl _)
  · rename_i c
    cases a <;> first | exact False.elim p | skip
    cases rb.blI; cases ra.blI
    exact op_notBl pins s σ _ _ _ v u Q I rx ry ⟨_, _, rfl, rfl, p.here q (Rep.bl _)⟩
/-! ### truth, places -/
theorem WR.seqLen (q : WR k w h) {a : D} {l : List D} {x : V} (e : seqOf h a = some l) (r : Rep k w a x) : ∃ p vs, x = .ref p ∧ l.length = vs.length ∧ (SqL k.K w.H p vs ∨ SqT k.K w.H p vs) := by
  obtain ⟨p, vs, e1, e2, r2⟩ := q.seq e r
  exact ⟨p, vs, e1, r2.length, e2⟩
theorem isEmpty_len {α β : Type} {l : List α} {m : List β} (e : l.length = m.length) : (!l.isEmpty) = !m.isEmpty := by
  cases l <;> cases m <;> simp at e <;> rfl
theorem tru_D {a : D} {x : V} {b : Bool} (q : WR (kX X ca ea) w h) (e : truthy h a = some b) (r : Rep (kX X ca ea) w a x) : TruV X.K x w.H b := by
  cases a <;> simp only [truthy] at e <;> try (cases e; done)
  · cases e; cases r.nonI; rfl
  · cases e; cases r.blI; rfl
  · cases e; cases r.intI; rfl
  · cases e
    have := sOk_len r.strK
    cases r.strI
    refine ⟨this, ?_⟩
    rename_i s
    cases hs : s.length <;> rfl
  · cases e
    obtain ⟨p, vs, rfl, h1, r1⟩ := r.tupI
    exact .inr (.inl ⟨vs, h1.sq, isEmpty_len r1.length⟩)
  · cases e
    obtain ⟨p, vs, rfl, h1, r1⟩ := r.lstI
    exact .inl ⟨vs, SqL.of h1.1, isEmpty_len r1.length⟩
  · split at e
    · rename_i hs
      cases e
      obtain ⟨p, kvs, rfl, e2, r2⟩ := q.dctS (a := .dct _) rfl hs r
      exact .inr (.inr ⟨kvs, e2, isEmpty_len r2.length⟩)
    · cases e
  · rename_i n
    split at e
    · rename_i l e'
      cases e
      obtain ⟨p, vs, rfl, _, h1, r1⟩ := q.lst e' r
      exact .inl ⟨vs, SqL.of h1, isEmpty_len r1.length⟩
    · rename_i l e'
      split at e
      · rename_i hs
        cases e
        obtain ⟨p, kvs, rfl, e2, r2⟩ := q.dctS (a := .ref n) (l := l) (by simp only [dctOf, e']) hs r
        exact .inr (.inr ⟨kvs, e2, isEmpty_len r2.length⟩)
      · cases e
    · cases e
theorem atI_rep {l : List D} {vs : List V} {i : Int} {d : D} (r : RepL k w l vs) (e : atI l i = some d) : ∃ v, atI vs i = some v ∧ Rep k w d v := by
  unfold atI at *
  rw [← r.length]
  cases hj : ixN l.length i with
  | none => rw [hj] at e; cases e
  | some j =>
    rw [hj] at e
    obtain ⟨v, h1, h2⟩ := r.get (show l[j]? = some d from e)
    exact ⟨v, h1, h2⟩
theorem atI_mem {α : Type} {l : List α} {i : Int} {d : α} (e : atI l i = some d) : d ∈ l := by
  unfold atI at e
  cases hj : ixN l.length i with
  | none => rw [hj] at e; cases e
  | some j => rw [hj] at e; exact List.mem_of_getElem? (show l[j]? = some d from e)
theorem atI_map {α β : Type} {l : List α} {f : α → β} {i : Int} {d : α} (e : atI l i = some d) : atI (l.map f) i = some (f d) := by
  unfold atI at *
  rw [List.length_map]
  cases hj : ixN l.length i with
  | none => rw [hj] at e; cases e
  | some j =>
    rw [hj] at e
    show (l.map f)[j]? = _
    rw [List.getElem?_map, show l[j]? = some d from e]; rfl
theorem ix_dct (hu : X.A.units + 1 < cLine) {value slice : Expr} {pins : List (Addr × Obj)} {s : Shared} {σ : L2.St} {x y : V} {v u : Value} {Q : VK} {a b : D} {l : List (D × D)} {σV : L2.St} (I : Inv X pins σ w.H s) (rx : RelV x v) (ry : RelV y u)
    (q : WR (kX X ca ea) w h) (ra : Rep (kX X ca ea) w a x) (rb : Rep (kX X ca ea) w b y) (ed : dctOf h a = some l) (p : post (kX X ca ea) W (Rep (kX X ca ea)) w σV (R.opt (if homK b l then getK b l else none) h) Q)
    (hs : subscripted slice false v u = operate [v, u] (getItem v u)) : wpAny (model X.prog X.w) X.A (subscriptTail value slice v u) (EP X pins σ Q) X.xe s := by
  split at p
  · rename_i hk
    obtain ⟨d, o, rfl, g, z⟩ := q.dget ed hk ra rb
    obtain rfl : v = Value.ref d := rx
    rcases z with ⟨e1, _⟩ | ⟨dd, y2, e1, rfl, rd⟩
    · rw [e1] at p; exact False.elim p
    · rw [e1] at p
      exact sub_end (dict_typeIs I g) hs (d_getItem hu I g ry fun w' s3 I3 rw' => ⟨y2, w.H, I3, rw', p.here q rd⟩)
  · exact False.elim p
theorem ix_D (hu : X.A.units + 1 < cLine) : IxR X (r2 (kX X ca ea) W fun a b h => R.opt (subD h a b) h) := by
  intro value slice pins s σ H x y v u Q I rx ry ⟨w, h, a, b, σV, e, q, ra, rb, p⟩ hs
  subst e
  cases a <;> first | exact False.elim p | skip
  · cases b <;> first | exact False.elim p | skip
    rename_i s' i
    simp only [subD] at p
    cases hc : atL s'.cps.toList i with
    | none => rw [hc] at p; exact False.elim p
    | some c =>
      rw [hc] at p
      have kk := ra.strK
      cases ra.strI; cases rb.intI
      exact ix_str value slice pins s σ _ _ _ v u Q I rx ry ⟨s', i, c, rfl, rfl, sOk_len kk, hc, p.here q (Rep.str (sOk_one ((sOk_iff.mp kk).1 c (atI_mem hc))))⟩ hs
  · cases b <;> first | exact False.elim p | skip
    rename_i l i
    simp only [subD] at p
    cases hc : atL l i with
    | none => rw [hc] at p; exact False.elim p
    | some d =>
      rw [hc] at p
      obtain ⟨a, vs, rfl, h1, r1⟩ := ra.tupI
      cases rb.intI
      obtain ⟨v', g1, g2⟩ := atI_rep r1 hc
      exact ix_tup value slice pins s σ _ _ _ v u Q I rx ry ⟨a, vs, i, v', rfl, rfl, h1.sq, g1, p.here q g2⟩ hs
  · cases b <;> first | exact False.elim p | skip
    rename_i l i
    simp only [subD] at p
    cases hc : atL l i with
    | none => rw [hc] at p; exact False.elim p
    | some d =>
      rw [hc] at p
      obtain ⟨a, vs, rfl, h1, r1⟩ := ra.lstI
      cases rb.intI
      obtain ⟨v', g1, g2⟩ := atI_rep r1 hc
      exact ix_list value slice pins s σ _ _ _ v u Q I rx ry ⟨a, vs, i, v', rfl, rfl, SqL.of h1.1, g1, p.here q g2⟩ hs
  · exact ix_dct hu I rx ry q ra rb rfl p hs
  · rename_i n
    simp only [subD] at p
    split at p
    · rename_i l e'
      cases b <;> first | exact False.elim p | skip
      rename_i i
      cases hc : atL l i with
      | none => simp only [hc] at p; exact False.elim p
      | some d =>
        simp only [hc] at p
        obtain ⟨a, vs, rfl, _, h1, r1⟩ := q.lst e' ra
        cases rb.intI
        obtain ⟨v', g1, g2⟩ := atI_rep r1 hc
        exact ix_list value slice pins s σ _ _ _ v u Q I rx ry ⟨a, vs, i, v', rfl, rfl, SqL.of h1, g1, p.here q g2⟩ hs
    · rename_i l e'
      exact ix_dct hu I rx ry q ra rb (by simp only [dctOf, e']) p hs
    · exact False.elim p
  · cases b <;> first | exact False.elim p | skip
    rename_i l i
    simp only [subD] at p
    cases hc : atL l i with
    | none => simp only [hc] at p; exact False.elim p
    | some d =>
      simp only [hc] at p
      obtain ⟨a, rfl, h1⟩ := ra.scrI
      cases rb.intI
      exact ix_list value slice pins s σ _ _ _ v u Q I rx ry ⟨a, _, i, _, rfl, rfl, h1.sq, atI_map hc, p.here q (Rep.int d)⟩ hs
/-! slices -/
theorem cut_rep {l : List D} {vs : List V} (lo hi : Option Int) (r : RepL k w l vs) : RepL k w (cutL l lo hi) (cutV vs lo hi) := by
  unfold cutL cutV
  rw [r.length]
  exact (r.drop _).take _
theorem cut_sub {α : Type} (l : List α) (lo hi : Option Int) : (cutL l lo hi).Sublist l := by
  unfold cutL
  exact (List.take_sublist _ _).trans (List.drop_sublist _ _)
theorem cut_whole {α : Type} {l : List α} {lo hi : Option Int} (h : HT.sIx l.length 0 lo = 0 ∧ HT.sIx l.length l.length hi = l.length) : cutL l lo hi = l := by
  unfold cutL
  rw [h.1, h.2]; simp
/-- what a slice's rule asks -/
def rSl (k : Kx) (W : Option WX) (m : Bool) : V → Option Int → Option Int → Hp → VK → Prop := fun x lo hi H Q => ∃ w h a σV, w.H = H ∧ WR k w h ∧ Rep k w a x ∧ post k W (Rep k) w σV (sliD m a lo hi h) Q
theorem sl_D {m : Bool} : SlR X (rSl (kX X ca ea) W m) := by
  intro pins s σ H x v vl vu lo hi sl Q I rx hs pl pu ⟨w, h, a, σV, e, q, ra, p⟩
  subst e
  have lst : ∀ l, seqOf h a = some l → (∀ m, a ≠ .tup m) → post (kX X ca ea) W (Rep (kX X ca ea)) w σV (mkL m (cutL l lo hi) h) Q → rSlL X.K x lo hi w.H Q := fun l e nt p => by
    obtain ⟨p', vs, e1, e2, r2⟩ := q.list e nt ra
    exact ⟨p', vs, e1, SqL.of e2, fun c hc => p.lst q (cut_rep lo hi r2) hc⟩
  cases a <;> first | exact False.elim p | skip
  · rename_i z
    have kk := ra.strK
    cases ra.strI
    have p : post (kX X ca ea) W (Rep (kX X ca ea)) w σV (.ok (.str ⟨(cutL z.cps.toList lo hi).toArray⟩) h) Q := p
    have p := p.here q (Rep.str (sOk_sub kk (cut_sub _ lo hi)))
    have e : cutS z lo hi = ⟨(cutL z.cps.toList lo hi).toArray⟩ := by
      unfold cutS cutL
      have : z.length = z.cps.toList.length := by simp [Str.length]
      rw [this]
    exact sl_str pins s σ _ _ v vl vu lo hi sl Q I rx hs pl pu ⟨z, rfl, sOk_len kk, by rw [e]; exact p⟩
  · rename_i l
    obtain ⟨a, vs, rfl, h1, r1⟩ := ra.tupI
    refine sl_tupF pins s σ _ _ v vl vu lo hi sl Q I rx hs pl pu ⟨a, vs, rfl, h1.sq, fun z => ?_, fun _ c o hc ho => ?_⟩
    · rw [← r1.length] at z
      have p : post (kX X ca ea) W (Rep (kX X ca ea)) w σV (.ok (.tup (cutL l lo hi)) h) Q := p
      rw [cut_whole z] at p
      exact p.here q ra
    · exact post.tup (l := cutL l lo hi) p q (cut_rep lo hi r1) hc ho
  · exact sl_list pins s σ _ _ v vl vu lo hi sl Q I rx hs pl pu (lst _ rfl (fun m z => by cases z) p)
  · rename_i n
    cases e : seqOf h (.ref n) with
    | none => simp only [sliD, e] at p; exact False.elim p
    | some l => simp only [sliD, e] at p; exact sl_list pins s σ _ _ v vl vu lo hi sl Q I rx hs pl pu (lst _ e (fun m z => by cases z) p)
end
end Dy
end

section
set_option linter.all false
set_option maxRecDepth 100000
set_option maxHeartbeats 1000000
set_option Elab.async false
namespace Dy
open PySem PySem.Spec PyProof.Rows L2
section
variable {ca : Str → Addr} {ea : Ec} {k : Kx} {W : Option WX} {X : Cx} {pos : Pos} {w : Wd} {h : Hh}
theorem RepL.one' {d : D} {xs : List V} (r : RepL k w [d] xs) : ∃ x, xs = [x] ∧ Rep k w d x := by
  simp only [RepL] at r
  obtain ⟨v, vr, rfl, h1, rfl⟩ := r
  exact ⟨v, rfl, h1⟩
theorem RepL.two' {d e : D} {xs : List V} (r : RepL k w [d, e] xs) : ∃ x y, xs = [x, y] ∧ Rep k w d x ∧ Rep k w e y := by
  simp only [RepL] at r
  obtain ⟨v, vr, rfl, h1, u, ur, rfl, h2, rfl⟩ := r
  exact ⟨v, u, rfl, h1, h2⟩
theorem RepL.nil' {xs : List V} (r : RepL k w [] xs) : xs = [] := by simpa only [RepL] using r
theorem WR.lstOf (q : WR k w h) {a : D} {l : List D} {x : V} (e : Dy.lstOf h a = some l) (r : Rep k w a x) : ∃ p vs, x = .ref p ∧ w.H p = some (.lst vs) ∧ RepL k w l vs := by
  refine q.list (a := a) ?_ (fun m z => by subst z; cases e) r
  cases a <;> first | exact e | cases e
theorem RepL.ints {l : List D} {ns : List Int} {vs : List V} (e : intsOf l = some ns) (r : RepL k w l vs) : vs = ns.map V.int := by
  induction l generalizing ns vs with
  | nil => cases e; rw [r.nil']; rfl
  | cons d l ih =>
    cases d <;> simp only [intsOf] at e <;> try (cases e; done)
    simp only [RepL] at r
    obtain ⟨v, vr, rfl, h1, h2⟩ := r
    cases hn : intsOf l with
    | none => rw [hn] at e; cases e
    | some ms => rw [hn] at e; cases e; rw [ih hn h2, h1.intI]; rfl
theorem RepL.bools {l : List D} {ns : List Bool} {vs : List V} (e : boolsOf l = some ns) (r : RepL k w l vs) : vs = ns.map V.bl := by
  induction l generalizing ns vs with
  | nil => cases e; rw [r.nil']; rfl
  | cons d l ih =>
    cases d <;> simp only [boolsOf] at e <;> try (cases e; done)
    simp only [RepL] at r
    obtain ⟨v, vr, rfl, h1, h2⟩ := r
    cases hn : boolsOf l with
    | none => rw [hn] at e; cases e
    | some ms => rw [hn] at e; cases e; rw [ih hn h2, h1.blI]; rfl
theorem RepL.strs {l : List D} {ns : List Str} {vs : List V} (e : strsOf l = some ns) (r : RepL k w l vs) : vs = ns.map V.str ∧ ∀ s ∈ ns, sOk s = true := by
  induction l generalizing ns vs with
  | nil => cases e; rw [r.nil']; exact ⟨rfl, fun s hs => by cases hs⟩
  | cons d l ih =>
    cases d <;> simp only [strsOf] at e <;> try (cases e; done)
    simp only [RepL] at r
    obtain ⟨v, vr, rfl, h1, h2⟩ := r
    cases hn : strsOf l with
    | none => rw [hn] at e; cases e
    | some ms =>
      rw [hn] at e; cases e
      obtain ⟨g1, g2⟩ := ih hn h2
      refine ⟨by rw [g1, h1.strI]; rfl, fun s hs => ?_⟩
      rcases List.mem_cons.mp hs with rfl | hs
      · exact h1.strK
      · exact g2 s hs
abbrev bR (ca : Str → Addr) (ea : Ec) (X : Cx) (W : Option WX) (m : Bool) (b : Bl) : List V → Hp → VK → Prop := rL (kX X ca ea) W fun l h => bltD m b l h
theorem bl_len {m : Bool} : CallR X (.builtin "len") (bR ca ea X W m .len) := by
  intro pins s σ H xs us Q I r ⟨w, h, l, σV, e, q, rl, p⟩
  subst e
  match l, rl with
  | [], _ => exact False.elim p
  | _ :: _ :: _, _ => exact False.elim p
  | [a], rl =>
    obtain ⟨x, rfl, ra⟩ := rl.one'
    simp only [bltD] at p
    cases hn : lenD h a with
    | none => rw [hn] at p; exact False.elim p
    | some n =>
      rw [hn] at p
      have dc : ∀ l, dctOf h a = some l → lenD h a = (if scK l then some l.length else none) → wpAny (model X.prog X.w) X.A (call (.builtin "len") us) (EP X pins σ Q) X.xe s := fun l ed el => by
        rw [hn] at el
        split at el
        · rename_i hs
          cases el
          obtain ⟨p', kvs, rfl, e2, r2⟩ := q.dctS ed hs ra
          refine call_lenD pins s σ _ _ us Q I r ⟨p', kvs, rfl, e2, ?_⟩
          rw [← r2.length]
          exact p.here q (Rep.int _)
        · cases el
      by_cases hd : ∃ l, dctOf h a = some l
      · obtain ⟨l, ed⟩ := hd
        refine dc l ed ?_
        unfold dctOf at ed
        split at ed
        · cases ed; rfl
        · split at ed
          · rename_i e2; cases ed; simp only [lenD, e2]
          · cases ed
        · cases ed
      refine call_len pins s σ _ _ us Q I r ⟨x, n, rfl, ?_, p.here q (Rep.int _)⟩
      cases a <;> simp only [lenD] at hn <;> try (cases hn; done)
      · cases hn
        have kk := ra.strK
        cases ra.strI
        exact ⟨sOk_len kk, rfl⟩
      · cases hn
        obtain ⟨p', vs, rfl, h1, r1⟩ := ra.tupI
        exact .inr ⟨vs, h1.sq, r1.length⟩
      · cases hn
        obtain ⟨p', vs, rfl, h1, r1⟩ := ra.lstI
        exact .inl ⟨vs, SqL.of h1.1, r1.length⟩
      · exact absurd ⟨_, rfl⟩ hd
      · simp only [Rep] at ra
      · split at hn
        · rename_i l' e'
          cases hn
          obtain ⟨p', vs, rfl, _, h1, r1⟩ := q.lst e' ra
          exact .inl ⟨vs, SqL.of h1, r1.length⟩
        · rename_i l' e'
          exact absurd ⟨l', by simp only [dctOf, e']⟩ hd
        · cases hn
      · cases hn
        obtain ⟨p', rfl, h1⟩ := ra.scrI
        exact .inl ⟨_, h1.sq, by rw [List.length_map]⟩
theorem bl_tuple {m : Bool} : CallR X (.type "tuple") (bR ca ea X W m .tuple) := by
  intro pins s σ H xs us Q I r ⟨w, h, l, σV, e, q, rl, p⟩
  subst e
  match l, rl with
  | [], _ => exact False.elim p
  | _ :: _ :: _, _ => exact False.elim p
  | [a], rl =>
    obtain ⟨x, rfl, ra⟩ := rl.one'
    simp only [bltD] at p
    cases hn : seqOf h a with
    | none => rw [hn] at p; exact False.elim p
    | some l =>
      rw [hn] at p
      by_cases nt : ∀ m, a ≠ .tup m
      · obtain ⟨p', vs, rfl, h1, r1⟩ := q.list hn nt ra
        exact call_tupF pins s σ _ _ us Q I r ⟨p', vs, rfl, .inl ⟨SqL.of h1, fun c o hc ho => p.tup q r1 hc ho⟩⟩
      · have : ∃ m, a = .tup m := by
          cases a <;> first | exact ⟨_, rfl⟩ | exact absurd (fun m z => by cases z) nt
        obtain ⟨m, rfl⟩ := this
        simp only [seqOf] at hn; cases hn
        obtain ⟨p', vs, rfl, h1, r1⟩ := ra.tupI
        exact call_tupF pins s σ _ _ us Q I r ⟨p', vs, rfl, .inr ⟨h1.sq, p.here q ra⟩⟩
/-- the keys of a dict as values -/
theorem RepP.keys : ∀ {l : List (D × D)} {kvs : List (Key × V)}, RepP k w l kvs → RepL k w (l.map (·.1)) (kvs.map fun kv => kV kv.1)
  | [], kvs, r => by simp only [RepP] at r; subst r; exact .nil
  | (kd, d) :: l, kvs, r => by
    simp only [RepP] at r
    obtain ⟨key, v, vr, rfl, rfl, r0, r1, r⟩ := r
    exact .cons r0 (RepP.keys r)
theorem bl_list {m : Bool} (hc : X.calm = true) : CallR X (.type "list") (bR ca ea X W m .list) := by
  intro pins s σ H xs us Q I r ⟨w, h, l, σV, e, q, rl, p⟩
  subst e
  match l, rl with
  | [], _ => exact False.elim p
  | _ :: _ :: _, _ => exact False.elim p
  | [a], rl =>
    obtain ⟨x, rfl, ra⟩ := rl.one'
    simp only [bltD] at p
    cases hn : lsOf h a with
    | none => rw [hn] at p; exact False.elim p
    | some l =>
      rw [hn] at p
      unfold lsOf at hn
      split at hn
      · rename_i l' ed
        split at hn
        · rename_i hs
          cases hn
          obtain ⟨p', kvs, rfl, e2, r2⟩ := q.dctS ed hs ra
          exact call_listD hc pins s σ _ _ us Q I r ⟨p', kvs, rfl, .inl e2, fun c hc => p.lst q r2.keys hc⟩
        · cases hn
      obtain ⟨p', vs, rfl, h1, r1⟩ := q.seq hn ra
      exact call_list_of pins s σ _ _ us Q I r ⟨p', vs, rfl, h1, fun c hc => p.lst q r1 hc⟩
theorem bl_all {m : Bool} (hc : X.calm = true) : CallR X (.builtin "all") (bR ca ea X W m .all) := by
  intro pins s σ H xs us Q I r ⟨w, h, l, σV, e, q, rl, p⟩
  subst e
  match l, rl with
  | [], _ => exact False.elim p
  | _ :: _ :: _, _ => exact False.elim p
  | [a], rl =>
    obtain ⟨x, rfl, ra⟩ := rl.one'
    simp only [bltD] at p
    cases hn : Dy.lstOf h a with
    | none => rw [hn] at p; exact False.elim p
    | some l =>
      rw [hn] at p
      cases hb : boolsOf l with
      | none => simp only [Option.bind_some, hb] at p; exact False.elim p
      | some bs =>
        simp only [Option.bind_some, hb, R.opt_some, R.bind_ok] at p
        obtain ⟨p', vs, rfl, h1, r1⟩ := q.lstOf hn ra
        cases RepL.bools hb r1
        exact cr_all hc pins s σ _ _ us Q I r ⟨p', bs, rfl, SqL.of h1, p.here q (Rep.bl _)⟩
theorem bl_any {m : Bool} (hc : X.calm = true) : CallR X (.builtin "any") (bR ca ea X W m .any) := by
  intro pins s σ H xs us Q I r ⟨w, h, l, σV, e, q, rl, p⟩
  subst e
  match l, rl with
  | [], _ => exact False.elim p
  | _ :: _ :: _, _ => exact False.elim p
  | [a], rl =>
    obtain ⟨x, rfl, ra⟩ := rl.one'
    simp only [bltD] at p
    cases hn : Dy.lstOf h a with
    | none => rw [hn] at p; exact False.elim p
    | some l =>
      rw [hn] at p
      cases hb : boolsOf l with
      | none => simp only [Option.bind_some, hb] at p; exact False.elim p
      | some bs =>
        simp only [Option.bind_some, hb, R.opt_some, R.bind_ok] at p
        obtain ⟨p', vs, rfl, h1, r1⟩ := q.lstOf hn ra
        cases RepL.bools hb r1
        exact cr_any hc pins s σ _ _ us Q I r ⟨p', bs, rfl, SqL.of h1, p.here q (Rep.bl _)⟩
theorem bl_abs {m : Bool} : CallR X (.builtin "abs") (bR ca ea X W m .abs) := by
  intro pins s σ H xs us Q I r ⟨w, h, l, σV, e, q, rl, p⟩
  subst e
  match l, rl with
  | [], _ => exact False.elim p
  | a :: _ :: _, _ => cases a <;> exact False.elim p
  | [a], rl =>
    cases a <;> first | exact False.elim p | skip
    obtain ⟨x, rfl, ra⟩ := rl.one'
    cases ra.intI
    exact call_abs pins s σ _ _ us Q I r ⟨_, rfl, p.here q (Rep.int _)⟩
/-- int(x) of ints, bools, texts -/
theorem bl_int {m : Bool} : CallR X (.type "int") (bR ca ea X W m .int) := by
  intro pins s σ H xs us Q I r ⟨w, h, l, σV, e, q, rl, p⟩
  subst e
  match l, rl with
  | [], _ => exact False.elim p
  | a :: _ :: _, _ => cases a <;> exact False.elim p
  | [a], rl =>
    cases a <;> first | exact False.elim p | skip
    · obtain ⟨x, rfl, ra⟩ := rl.one'
      cases ra.blI
      exact call_int1 pins s σ _ _ us Q I r (.inr ⟨_, rfl, p.here q (Rep.int _)⟩)
    · obtain ⟨x, rfl, ra⟩ := rl.one'
      cases ra.intI
      exact call_int1 pins s σ _ _ us Q I r (.inl ⟨_, rfl, p.here q (Rep.int _)⟩)
    · rename_i t
      obtain ⟨x, rfl, ra⟩ := rl.one'
      cases ra.strI
      simp only [bltD] at p
      split at p
      · rename_i hz
        cases hi : PySem.intText? t with
        | none => rw [hi] at p; exact False.elim p
        | some i =>
          rw [hi] at p
          exact call_int_str pins s σ _ _ us Q I r ⟨_, _, rfl, hi, hz, p.here q (Rep.int _)⟩
      · exact False.elim p
theorem maxI_go : ∀ (l : List Int) (i : Int), (l.foldl (fun m j => if m < j then j else m) i ∈ i :: l) ∧ ∀ y ∈ i :: l, y ≤ l.foldl (fun m j => if m < j then j else m) i
  | [], i => ⟨by simp, fun y hy => by simp at hy; subst hy; simp⟩
  | j :: r, i => by
    by_cases hc : i < j
    · obtain ⟨g1, g2⟩ := maxI_go r j
      simp only [List.foldl_cons, if_pos hc]
      refine ⟨List.mem_cons_of_mem _ g1, fun y hy => ?_⟩
      have g := g2 j List.mem_cons_self
      rcases List.mem_cons.mp hy with rfl | hy
      · omega
      · exact g2 y hy
    · obtain ⟨g1, g2⟩ := maxI_go r i
      simp only [List.foldl_cons, if_neg hc]
      refine ⟨by rcases List.mem_cons.mp g1 with e | e <;> simp [e], fun y hy => ?_⟩
      have g := g2 i List.mem_cons_self
      rcases List.mem_cons.mp hy with rfl | hy
      · exact g
      · rcases List.mem_cons.mp hy with rfl | hy
        · omega
        · exact g2 y (List.mem_cons_of_mem _ hy)
theorem minI_go : ∀ (l : List Int) (i : Int), (l.foldl (fun m j => if j < m then j else m) i ∈ i :: l) ∧ ∀ y ∈ i :: l, l.foldl (fun m j => if j < m then j else m) i ≤ y
  | [], i => ⟨by simp, fun y hy => by simp at hy; subst hy; simp⟩
  | j :: r, i => by
    by_cases hc : j < i
    · obtain ⟨g1, g2⟩ := minI_go r j
      simp only [List.foldl_cons, if_pos hc]
      refine ⟨List.mem_cons_of_mem _ g1, fun y hy => ?_⟩
      have g := g2 j List.mem_cons_self
      rcases List.mem_cons.mp hy with rfl | hy
      · omega
      · exact g2 y hy
    · obtain ⟨g1, g2⟩ := minI_go r i
      simp only [List.foldl_cons, if_neg hc]
      refine ⟨by rcases List.mem_cons.mp g1 with e | e <;> simp [e], fun y hy => ?_⟩
      have g := g2 i List.mem_cons_self
      rcases List.mem_cons.mp hy with rfl | hy
      · exact g
      · rcases List.mem_cons.mp hy with rfl | hy
        · omega
        · exact g2 y (List.mem_cons_of_mem _ hy)
theorem bl_max {m : Bool} (hc : X.calm = true) : CallR X (.builtin "max") (bR ca ea X W m .max) := by
  intro pins s σ H xs us Q I r ⟨w, h, l, σV, e, q, rl, p⟩
  subst e
  match l, rl with
  | [], _ => exact False.elim p
  | a :: b :: _ :: _, _ => cases a <;> cases b <;> exact False.elim p
  | [a, b], rl =>
    cases a <;> first | exact False.elim p | (cases b <;> first | exact False.elim p | skip)
    obtain ⟨x, y, rfl, ra, rb⟩ := rl.two'
    cases ra.intI; cases rb.intI
    exact call_max2 hc pins s σ _ _ us Q I r ⟨_, _, rfl, p.here q (Rep.int _)⟩
  | [a], rl =>
    have p : post (kX X ca ea) W (Rep (kX X ca ea)) w σV ((R.opt (((Dy.lstOf h a).bind intsOf).bind maxI) h).bind fun i h => .ok (.int i) h) Q := by cases a <;> exact p
    cases hn : Dy.lstOf h a with
    | none => simp only [hn, Option.bind_none, R.opt_none, R.bind_bad] at p; exact False.elim p
    | some l =>
      cases hb : intsOf l with
      | none => simp only [hn, hb, Option.bind_some, Option.bind_none, R.opt_none, R.bind_bad] at p; exact False.elim p
      | some ns =>
        cases ns with
        | nil => simp only [hn, hb, Option.bind_some, maxI, R.opt_none, R.bind_bad] at p; exact False.elim p
        | cons i ns =>
          simp only [hn, hb, Option.bind_some, maxI, R.opt_some, R.bind_ok] at p
          obtain ⟨x, rfl, ra⟩ := rl.one'
          obtain ⟨p', vs, rfl, h1, r1⟩ := q.lstOf hn ra
          cases RepL.ints hb r1
          obtain ⟨g1, g2⟩ := maxI_go ns i
          refine cr_max hc pins s σ _ _ us Q I r ⟨p', i :: ns, rfl, SqL.of h1, by simp, fun m hm hle => ?_⟩
          have : m = ns.foldl (fun m j => if m < j then j else m) i := Int.le_antisymm (g2 m hm) (hle _ g1)
          rw [this]
          exact p.here q (Rep.int _)
theorem bl_min {m : Bool} (hc : X.calm = true) : CallR X (.builtin "min") (bR ca ea X W m .min) := by
  intro pins s σ H xs us Q I r ⟨w, h, l, σV, e, q, rl, p⟩
  subst e
  match l, rl with
  | [], _ => exact False.elim p
  | a :: b :: _ :: _, _ => cases a <;> cases b <;> exact False.elim p
  | [a, b], rl =>
    cases a <;> first | exact False.elim p | (cases b <;> first | exact False.elim p | skip)
    obtain ⟨x, y, rfl, ra, rb⟩ := rl.two'
    cases ra.intI; cases rb.intI
    exact call_min2 hc pins s σ _ _ us Q I r ⟨_, _, rfl, p.here q (Rep.int _)⟩
  | [a], rl =>
    have p : post (kX X ca ea) W (Rep (kX X ca ea)) w σV ((R.opt (((Dy.lstOf h a).bind intsOf).bind minI) h).bind fun i h => .ok (.int i) h) Q := by cases a <;> exact p
    cases hn : Dy.lstOf h a with
    | none => simp only [hn, Option.bind_none, R.opt_none, R.bind_bad] at p; exact False.elim p
    | some l =>
      cases hb : intsOf l with
      | none => simp only [hn, hb, Option.bind_some, Option.bind_none, R.opt_none, R.bind_bad] at p; exact False.elim p
      | some ns =>
        cases ns with
        | nil => simp only [hn, hb, Option.bind_some, minI, R.opt_none, R.bind_bad] at p; exact False.elim p
        | cons i ns =>
          simp only [hn, hb, Option.bind_some, minI, R.opt_some, R.bind_ok] at p
          obtain ⟨x, rfl, ra⟩ := rl.one'
          obtain ⟨p', vs, rfl, h1, r1⟩ := q.lstOf hn ra
          cases RepL.ints hb r1
          obtain ⟨g1, g2⟩ := minI_go ns i
          refine cr_min hc pins s σ _ _ us Q I r ⟨p', i :: ns, rfl, SqL.of h1, by simp, fun m hm hle => ?_⟩
          have : m = ns.foldl (fun m j => if j < m then j else m) i := Int.le_antisymm (hle _ g1) (g2 m hm)
          rw [this]
          exact p.here q (Rep.int _)
/-- str(x) of ints, texts -/
theorem sOk_ofAscii {s : Str} (h : ∀ c ∈ s.cps.toList, c < 128) (hz : s.length ≤ sizeL) : sOk s = true := by
  rw [sOk_iff]
  exact ⟨fun c hc => by have := h c hc; omega, by simpa [Str.length] using hz⟩
/-- sorted of pairs of ints -/
theorem insD_perm (x : D) : ∀ l, (insD x l).Perm (x :: l)
  | [] => .refl _
  | y :: r => by
    unfold insD
    split
    · exact ((insD_perm x r).cons y).trans (.swap x y r)
    · exact .refl _
theorem isort_perm : ∀ l, (isort l).Perm l
  | [] => .refl _
  | x :: r => by unfold isort; exact (insD_perm x _).trans ((isort_perm r).cons x)
def prI : D → Int × Int
  | .tup [.int a, .int b] => (a, b)
  | _ => (0, 0)
theorem isPair_of {d : D} (h : d.isPair = true) : ∃ a b, d = .tup [.int a, .int b] := by
  cases d <;> first | cases h | skip
  rename_i l
  match l, h with
  | [.int a, .int b], _ => exact ⟨a, b, rfl⟩
theorem ltB_pair {a b a' b' : Int} : ltB (.tup [.int a, .int b]) (.tup [.int a', .int b']) = SrtO.lexB (a, b) (a', b') := by
  have e1 : D.eqv (.int a) (.int a') = (a == a') := rfl
  have e2 : D.eqv (.int b) (.int b') = (b == b') := rfl
  unfold ltB SrtO.lexB
  simp only [ltD, ltL, e1, e2]
  by_cases h1 : a = a'
  · subst h1
    simp only [beq_self_eq_true, if_true, Option.getD]
    by_cases h2 : b = b'
    · subst h2; simp
    · have : (b == b') = false := by simpa using h2
      simp [this]
  · have : (a == a') = false := by simpa using h1
    simp [this, h1]
end
end Dy
end

section
set_option linter.all false
set_option maxRecDepth 100000
set_option maxHeartbeats 1000000
set_option Elab.async false
namespace Dy
open PySem PySem.Spec PyProof.Rows L2
section
variable {ca : Str → Addr} {ea : Ec} {k : Kx} {W : Option WX} {X : Cx} {pos : Pos} {w : Wd} {h : Hh}
/-! ### sorted of pairs of ints -/
theorem ltB_swo' : SrtO.Swo fun x y : D => SrtO.lexB (prI x) (prI y) := by
  refine ⟨fun x y h => ?_, fun x y z h1 h2 => ?_⟩
  · have a := SrtO.lexB_iff.mp h
    refine SrtO.lexB_no.mpr ?_
    omega
  · have a := SrtO.lexB_no.mp h1
    have b := SrtO.lexB_no.mp h2
    refine SrtO.lexB_no.mpr ?_
    omega
theorem ltB_prI {x y : D} (hx : x.isPair = true) (hy : y.isPair = true) : ltB x y = SrtO.lexB (prI x) (prI y) := by
  obtain ⟨a, b, rfl⟩ := isPair_of hx
  obtain ⟨c, d, rfl⟩ := isPair_of hy
  exact ltB_pair
abbrev ltQ (x y : D) : Bool := SrtO.lexB (prI x) (prI y)
theorem insD_mem {x y : D} : ∀ {l}, y ∈ insD x l ↔ y = x ∨ y ∈ l := fun {l} => by
  rw [(insD_perm x l).mem_iff]; exact List.mem_cons
theorem insD_srt {x : D} (hx : x.isPair = true) : ∀ {l : List D}, (∀ y ∈ l, y.isPair = true) → SrtO.Srtd ltQ l → SrtO.Srtd ltQ (insD x l)
  | [], _, _ => List.pairwise_singleton _ _
  | y :: r, hp, hs => by
    have hy := hp y List.mem_cons_self
    unfold insD
    rw [ltB_prI hy hx]
    split
    · rename_i hc
      refine List.pairwise_cons.mpr ⟨fun z hz => ?_, insD_srt hx (fun z hz => hp z (List.mem_cons_of_mem _ hz)) (List.pairwise_cons.mp hs).2⟩
      rcases insD_mem.mp hz with rfl | hz
      · exact ltB_swo'.asym _ _ hc
      · exact (List.pairwise_cons.mp hs).1 z hz
    · rename_i hc
      have hc : ltQ y x = false := by simpa using hc
      refine List.pairwise_cons.mpr ⟨fun z hz => ?_, hs⟩
      rcases List.mem_cons.mp hz with rfl | hz
      · exact hc
      · exact ltB_swo'.tr _ _ _ hc ((List.pairwise_cons.mp hs).1 z hz)
theorem isort_srt : ∀ {l : List D}, (∀ y ∈ l, y.isPair = true) → SrtO.Srtd ltQ (isort l)
  | [], _ => List.Pairwise.nil
  | x :: r, hp => by
    unfold isort
    exact insD_srt (hp x List.mem_cons_self) (fun y hy => hp y (List.mem_cons_of_mem _ ((isort_perm r).mem_iff.mp hy))) (isort_srt fun y hy => hp y (List.mem_cons_of_mem _ hy))
theorem prI_inj {x y : D} (hx : x.isPair = true) (hy : y.isPair = true) (e : prI x = prI y) : x = y := by
  obtain ⟨a, b, rfl⟩ := isPair_of hx
  obtain ⟨c, d, rfl⟩ := isPair_of hy
  simp only [prI] at e
  cases e; rfl
theorem eqvQ {x y : D} (hx : x.isPair = true) (hy : y.isPair = true) (e : SrtO.eqv ltQ x y = true) : x = y := by
  obtain ⟨h1, h2⟩ := SrtO.eqv_iff.mp e
  have a := SrtO.lexB_no.mp h1
  have b := SrtO.lexB_no.mp h2
  refine prI_inj hx hy (Prod.ext ?_ ?_) <;> omega
/-- a sorted rearrangement is the one by insertion -/
theorem srt_uniq {l m : List D} (hp : ∀ y ∈ l, y.isPair = true) (hs : SrtO.Srtd ltQ m) (pm : m.Perm l) : m = isort l := by
  have hm : ∀ y ∈ m, y.isPair = true := fun y hy => hp y (pm.mem_iff.mp hy)
  have pi : m.Perm (isort l) := pm.trans (isort_perm l).symm
  refine SrtO.stb_uniq ltB_swo' hs (isort_srt hp) ⟨pi, fun x => ?_⟩
  have key : ∀ (u v : List D), (∀ y ∈ u, y.isPair = true) → (∀ y ∈ v, y.isPair = true) → u.Perm v → u.filter (SrtO.eqv ltQ x) = v.filter (SrtO.eqv ltQ x) := fun u v hu hv p => by
    have pf := p.filter (SrtO.eqv ltQ x)
    have alleq : ∀ a ∈ u.filter (SrtO.eqv ltQ x), ∀ b ∈ u.filter (SrtO.eqv ltQ x), a = b := fun a ha b hb => by
      obtain ⟨a1, a2⟩ := List.mem_filter.mp ha
      obtain ⟨b1, b2⟩ := List.mem_filter.mp hb
      refine eqvQ (hu a a1) (hu b b1) ?_
      rw [← SrtO.eqv_trans ltB_swo' a2]; exact b2
    cases hf : u.filter (SrtO.eqv ltQ x) with
    | nil => rw [hf] at pf; exact (List.Perm.eq_nil pf.symm).symm
    | cons a r =>
      have ma : a ∈ u.filter (SrtO.eqv ltQ x) := by rw [hf]; exact List.mem_cons_self
      have e1 : u.filter (SrtO.eqv ltQ x) = List.replicate (u.filter (SrtO.eqv ltQ x)).length a := List.eq_replicate_of_mem fun b hb => alleq b hb a ma
      have e2 : v.filter (SrtO.eqv ltQ x) = List.replicate (v.filter (SrtO.eqv ltQ x)).length a := List.eq_replicate_of_mem fun b hb => alleq b (pf.mem_iff.mpr hb) a ma
      rw [← hf, e1, e2, pf.length_eq]
  exact key m (isort l) hm (fun y hy => hp y ((isort_perm l).mem_iff.mp hy)) pi
open Classical in
noncomputable def prV (H : Heap) (v : Value) : Int × Int := if e : ∃ p : Int × Int, Srt.IsPair H v p.1 p.2 then e.choose else (0, 0)
theorem prV_of {H : Heap} {v : Value} {x y : Int} (e : Srt.IsPair H v x y) : prV H v = (x, y) := by
  have ex : ∃ p : Int × Int, Srt.IsPair H v p.1 p.2 := ⟨(x, y), e⟩
  unfold prV
  rw [dif_pos ex]
  obtain ⟨a, o, t, u, n, e1, e2, e3, e4⟩ := ex.choose_spec
  obtain ⟨a', o', t', u', n', f1, f2, f3, f4⟩ := e
  rw [e1] at f1; cases f1
  rw [e2] at f2; cases f2
  rw [e4] at f4
  injection f4 with f4 _
  have := congrArg Array.toList f4
  simp at this
  exact Prod.ext this.1.1 this.2.1
end
end Dy
end

section
set_option linter.all false
set_option maxRecDepth 100000
set_option maxHeartbeats 1000000
set_option Elab.async false
namespace Dy
open PySem PySem.Spec PyProof.Rows L2
section
variable {ca : Str → Addr} {ea : Ec} {k : Kx} {W : Option WX} {X : Cx} {pos : Pos} {w : Wd} {h : Hh}
theorem mem_rep {l : List D} {vs : List V} {v : V} (r : RepL k w l vs) (hv : v ∈ vs) : ∃ d ∈ l, Rep k w d v := by
  induction l generalizing vs with
  | nil => rw [r.nil'] at hv; cases hv
  | cons d l ih =>
    simp only [RepL] at r
    obtain ⟨u, ur, rfl, h1, h2⟩ := r
    rcases List.mem_cons.mp hv with rfl | hv
    · exact ⟨d, List.mem_cons_self, h1⟩
    · obtain ⟨d', m, r'⟩ := ih h2 hv
      exact ⟨d', List.mem_cons_of_mem _ m, r'⟩
theorem RepL.of_map {f : V → D} : ∀ {vs : List V}, (∀ v ∈ vs, Rep k w (f v) v) → RepL k w (vs.map f) vs
  | [], _ => .nil
  | v :: r, hv => .cons (hv v List.mem_cons_self) (RepL.of_map fun u hu => hv u (List.mem_cons_of_mem _ hu))
theorem RepL.map_eq {f : V → D} : ∀ {l : List D} {vs : List V}, RepL k w l vs → (∀ d v, d ∈ l → Rep k w d v → f v = d) → vs.map f = l
  | [], vs, r, _ => by rw [r.nil']; rfl
  | d :: l, vs, r, hf => by
    simp only [RepL] at r
    obtain ⟨u, ur, rfl, h1, h2⟩ := r
    rw [List.map_cons, hf d u List.mem_cons_self h1, RepL.map_eq h2 fun d v m q => hf d v (List.mem_cons_of_mem _ m) q]
theorem cr_sorted {pins : List (Addr × Obj)} {s : Shared} {σ : L2.St} {a : Addr} {xs : List V} {l : List D} {m : Bool} {σV : L2.St} {Q : VK} (I : Inv X pins σ w.H s) (q : WR (kX X ca ea) w h)
    (hs : SqL X.K w.H a xs) (r : RepL (kX X ca ea) w l xs) (hp : l.all D.isPair = true) (p : post (kX X ca ea) W (Rep (kX X ca ea)) w σV (mkL m (isort l) h) Q) :
    wpAny (model X.prog X.w) X.A (call (.builtin "sorted") [.ref a]) (EP X pins σ Q) X.xe s := by
  obtain ⟨its, rv, hl, hz⟩ := I.list hs
  have hp' : ∀ d ∈ l, d.isPair = true := fun d hd => List.all_eq_true.mp hp d hd
  have at_ : ∀ d v u, d ∈ l → Rep (kX X ca ea) w d v → RelV v u → ∃ b, v = .ref b ∧ Srt.IsPair s.heap u (prI d).1 (prI d).2 := fun d v u hd rd ru => by
    obtain ⟨i, j, rfl⟩ := isPair_of (hp' d hd)
    obtain ⟨b, vs, rfl, h1, r1⟩ := rd.tupI
    obtain ⟨x, y, rfl, rx, ry⟩ := r1.two'
    cases rx.intI; cases ry.intI
    obtain ⟨its2, r2, ⟨o, ho, hc, n, hd2⟩, _⟩ := I.tuple h1.sq
    obtain ⟨u1, u2, e2, ⟨t1, rfl⟩, ⟨t2, rfl⟩⟩ := vals2 r2
    subst e2
    cases (show u = Value.ref b from ru)
    exact ⟨b, rfl, b, o, t1, t2, n, rfl, ho, hc, hd2⟩
  have refs : ∀ v ∈ xs, ∃ b, v = V.ref b := fun v hv => by
    obtain ⟨d, hd, rd⟩ := mem_rep r hv
    obtain ⟨i, j, rfl⟩ := isPair_of (hp' d hd)
    obtain ⟨b, vs, rfl, _⟩ := rd.tupI
    exact ⟨b, rfl⟩
  obtain ⟨e1, e2⟩ := refs_back rv fun x m => refs x m
  let f : V → D := fun v => match v with
    | .ref b => .tup [.int (prV s.heap (.ref b)).1, .int (prV s.heap (.ref b)).2]
    | _ => .non
  have fv : ∀ d v, d ∈ l → Rep (kX X ca ea) w d v → f v = d := fun d v hd rd => by
    obtain ⟨i, j, rfl⟩ := isPair_of (hp' d hd)
    obtain ⟨b, vs, rfl, _⟩ := rd.tupI
    obtain ⟨_, _, g⟩ := at_ _ _ (Value.ref b) hd rd rfl
    have := prV_of g
    show D.tup [.int (prV s.heap (.ref b)).1, .int (prV s.heap (.ref b)).2] = _
    rw [this]; rfl
  have rep : ∀ v ∈ xs, Rep (kX X ca ea) w (f v) v := fun v hv => by
    obtain ⟨d, hd, rd⟩ := mem_rep r hv
    rw [fv d v hd rd]; exact rd
  have fl : xs.map f = l := RepL.map_eq r fv
  refine SrtO.sorted_pairsO (k := prV s.heap) hl.isList (by rw [← rv.length]; exact hz) (fun v hv => ?_) fun h' d out h1 h2 kp hd hn => ?_
  · obtain ⟨t, rfl⟩ := e2 v hv
    have hm : V.ref t ∈ xs := by rw [e1]; exact List.mem_map.mpr ⟨_, hv, rfl⟩
    obtain ⟨d, hd, rd⟩ := mem_rep r hm
    obtain ⟨_, _, g⟩ := at_ d _ (Value.ref t) hd rd rfl
    rw [prV_of g]; exact g
  · have h3 : ∀ u ∈ out, ∃ a, u = Value.ref a := fun u hu => e2 u (h2.perm.mem_iff.mp hu)
    obtain ⟨n, hn⟩ := hn
    have pm : (out.map backV).Perm xs := by rw [e1]; exact h2.perm.map backV
    have eo : (out.map backV).map f = isort l := by
      refine srt_uniq hp' ?_ (by rw [← fl]; exact pm.map f)
      unfold SrtO.Srtd at h1 ⊢
      rw [List.map_map]
      refine List.pairwise_map.mpr (h1.imp_of_mem fun {x y} hx hy hxy => ?_)
      obtain ⟨bx, rfl⟩ := h3 x hx
      obtain ⟨b2, rfl⟩ := h3 y hy
      exact hxy
    have ro : RepL (kX X ca ea) w (isort l) (out.map backV) := by
      rw [← eo]; exact RepL.of_map fun v hv => rep v (pm.mem_iff.mp hv)
    have hlen : (out.map backV).length ≤ sizeLine := by rw [pm.length_eq]; exact hz
    exact ⟨.ref d, upd w.H d (.lst (out.map backV)), I.laid (t' := s.toks) kp hd ⟨hlen, out, n, vals_back h3, hn⟩, rfl, p.lst q ro (I.hok.fresh hd)⟩
theorem bl_sorted {m : Bool} : CallR X (.builtin "sorted") (bR ca ea X W m .sorted) := by
  intro pins s σ H xs us Q I r ⟨w, h, l, σV, e, q, rl, p⟩
  subst e
  match l, rl with
  | [], _ => exact False.elim p
  | a :: _ :: _, _ => cases a <;> exact False.elim p
  | [a], rl =>
    obtain ⟨x, rfl, ra⟩ := rl.one'
    by_cases ns : ∃ l, a = .set l
    · obtain ⟨l, rfl⟩ := ns
      simp only [Rep] at ra
    · have p : post (kX X ca ea) W (Rep (kX X ca ea)) w σV ((R.opt ((Dy.lstOf h a).bind sortD) h).bind fun l h => mkL m l h) Q := by
        cases a <;> first | exact p | exact absurd ⟨_, rfl⟩ ns
      cases hn : Dy.lstOf h a with
      | none => simp only [hn, Option.bind_none, R.opt_none, R.bind_bad] at p; exact False.elim p
      | some l =>
        simp only [hn, Option.bind_some, sortD] at p
        split at p
        · rename_i hp
          simp only [R.opt_some, R.bind_ok] at p
          obtain ⟨p', vs, rfl, h1, r1⟩ := q.lstOf hn ra
          obtain ⟨u, rfl, ru⟩ := vals1 r
          obtain rfl : u = Value.ref p' := ru
          exact cr_sorted I q (SqL.of h1) r1 hp p
        · exact False.elim p
/-! ### str, repr, bool, sum -/
theorem intText_ok (i : Int) (hz : i.natAbs.log2 < 1920) : sOk (Str.ofString (toString i)) = true := by
  refine sOk_ofAscii (fun c hc => ?_) ?_
  · have e : (Str.ofString (toString i)).cps.toList = (toString i).toList.map Char.toNat := by simp only [Str.ofString_eq_toList, List.toList_toArray]
    rw [e] at hc
    obtain ⟨d, hd, rfl⟩ := List.mem_map.mp hc
    exact PySem.int_ascii i d hd
  · rw [sizeL_eq]; exact PySem.int_text_fits hz
theorem bl_str {m : Bool} : CallR X (.type "str") (bR ca ea X W m .str) := by
  intro pins s σ H xs us Q I r ⟨w, h, l, σV, e, q, rl, p⟩
  subst e
  match l, rl with
  | [], _ => exact False.elim p
  | _ :: _ :: _, _ => exact False.elim p
  | [a], rl =>
    obtain ⟨x, rfl, ra⟩ := rl.one'
    cases a <;> first | exact False.elim p | skip
    · simp only [bltD, textOf] at p
      split at p
      · rename_i hz
        cases ra.intI
        exact call_str_int pins s σ _ _ us Q I r ⟨_, rfl, hz, p.here q (Rep.str (intText_ok _ hz))⟩
      · exact False.elim p
    · have kk := ra.strK
      cases ra.strI
      exact SkE.call_str_str pins s σ _ _ us Q I r ⟨_, rfl, p.here q (Rep.str kk)⟩
mutual
theorem noDict : ∀ (d : D) (n : Nat), d.pl n = true → d.toPy.hasDict = false
  | .non, n, _ => rfl
  | .bl _, n, _ => rfl
  | .int _, n, _ => rfl
  | .str _, n, _ => rfl
  | .tup l, n, hp => by
    cases n with
    | zero => cases hp
    | succ n => simpa only [D.toPy, PyData.hasDict] using noDictL l n (by simpa only [D.pl] using hp)
  | .lst l, n, hp => by
    cases n with
    | zero => cases hp
    | succ n => simpa only [D.toPy, PyData.hasDict] using noDictL l n (by simpa only [D.pl] using hp)
  | .dct _, n, hp => by cases hp
  | .set _, n, hp => by cases hp
  | .ref _, n, hp => by cases hp
  | .exc _ _, n, hp => by cases hp
  | .scr _, n, hp => by cases hp
theorem noDictL : ∀ (l : List D) (n : Nat), D.plL l n = true → PyData.hasDictAll (D.toPyL l) = false
  | [], n, _ => rfl
  | d :: l, n, hp => by
    simp only [D.plL, Bool.and_eq_true] at hp
    simp only [D.toPyL, PyData.hasDictAll, noDict d n hp.1, noDictL l n hp.2]; rfl
end
theorem bl_repr {m : Bool} (hg : X.A.guards = some []) (hu : X.A.units + 70 < cLine) : CallR X (.builtin "repr") (bR ca ea X W m .repr) := by
  intro pins s σ H xs us Q I r ⟨w, h, l, σV, e, q, rl, p⟩
  subst e
  match l, rl with
  | [], _ => exact False.elim p
  | _ :: _ :: _, _ => exact False.elim p
  | [a], rl =>
    obtain ⟨x, rfl, ra⟩ := rl.one'
    simp only [bltD] at p
    split at p
    · rename_i hc
      simp only [Bool.and_eq_true] at hc
      obtain ⟨⟨c1, c2⟩, c3⟩ := hc
      have p2 : Q (.str (PyData.shown a.toPy)) w.H := p.here q (Rep.str c3)
      clear p
      obtain ⟨u, rfl, ru⟩ := vals1 r
      obtain ⟨g1, g2, g3⟩ := Rep.dp a x 60 ra c1
      have hz := sOk_len c3
      obtain ⟨as, rd⟩ := Dp.reads I _ _ _ g1 ru
      have hnd := noDict a 60 c1
      cases a <;> first | cases c1 | skip
      · cases ra.nonI; cases (show u = Value.none from ru)
        exact PySem.P.repr_of_none ⟨.str _, w.H, I.tok _, ⟨_, rfl⟩, p2⟩
      · rename_i b
        cases ra.blI; cases (show u = Value.bool b from ru)
        exact PySem.P.repr_of_bool ⟨.str _, w.H, I.tok _, ⟨_, rfl⟩, p2⟩
      · rename_i i
        cases ra.intI; obtain ⟨t, rfl⟩ := (show ∃ t, u = Value.int i t from ru)
        have c2 : i.natAbs.log2 < 1920 := by
          have : decide (i.natAbs.log2 < 1920) = true := c2
          exact of_decide_eq_true this
        exact PySem.P.repr_of_int c2 ⟨.str _, w.H, I.tok _, ⟨_, rfl⟩, p2⟩
      · rename_i y
        cases ra.strI; obtain ⟨t, rfl⟩ := (show ∃ t, u = Value.str y t from ru)
        exact PySem.P.repr_of_str ⟨.str _, w.H, I.tok _, ⟨_, rfl⟩, p2⟩ hz
      · obtain ⟨b, vs, rfl, _⟩ := ra.tupI
        cases (show u = Value.ref b from ru)
        exact repr_of_reads' rd c2 (fun z => by rw [hnd] at z; cases z) hg (by omega) (fun _ _ e => e) (fun h' u tk kk => ⟨.str _, w.H, I.kept kk, ⟨_, rfl⟩, p2⟩) hz
      · obtain ⟨b, vs, rfl, _⟩ := ra.lstI
        cases (show u = Value.ref b from ru)
        exact repr_of_reads' rd c2 (fun z => by rw [hnd] at z; cases z) hg (by omega) (fun _ _ e => e) (fun h' u tk kk => ⟨.str _, w.H, I.kept kk, ⟨_, rfl⟩, p2⟩) hz
    · exact False.elim p
end
end Dy
end

section
set_option linter.all false
set_option maxRecDepth 100000
set_option maxHeartbeats 1000000
set_option Elab.async false
namespace Dy
open PySem PySem.Spec PyProof.Rows L2
section
variable {ca : Str → Addr} {ea : Ec} {k : Kx} {W : Option WX} {X : Cx} {pos : Pos} {w : Wd} {h : Hh}
def rM (k : Kx) (W : Option WX) (g : D → List D → Hh → R D) : V → List V → Hp → VK → Prop := fun x xs H Q => ∃ w h a l σV, w.H = H ∧ WR k w h ∧ Rep k w a x ∧ RepL k w l xs ∧ post k W (Rep k) w σV (g a l h) Q
abbrev mR (ca : Str → Addr) (ea : Ec) (X : Cx) (W : Option WX) (m : Bool) (t : Mt) := rM (kX X ca ea) W fun a l h => metD m t a l h
/-- a live list of ours, written -/
theorem WR.wrL {σV : L2.St} {Q : VK} {n : Nat} {x : V} {l l' : List D} {d : D} (q : WR k w h) (e : h[n]? = some (.lst l)) (r : Rep k w (.ref n) x) (p : post k W (Rep k) w σV (.ok d (h.set n (.lst l'))) Q) :
    ∃ a vs, x = .ref a ∧ w.H a = some (.lst vs) ∧ RepL k w l vs ∧ ∀ vs' v, RepL k w l' vs' → Rep k w d v → Q v (upd w.H a (.lst vs')) := by
  obtain ⟨a, vs, rfl, ha, h1, r1⟩ := q.lst e r
  refine ⟨a, vs, rfl, h1, r1, fun vs' v r' rd => ?_⟩
  have x := q.le_wr (o := .lst vs') ha
  exact p.ok x (q.wr ha ⟨vs', upd_same, RepL.mono x.li _ _ r'⟩ rfl) (Rep.mono x.li _ _ rd)
theorem RepL.dropLast {l : List D} {vs : List V} (r : RepL k w l vs) : RepL k w l.dropLast vs.dropLast := by
  rw [List.dropLast_eq_take, List.dropLast_eq_take, r.length]
  exact r.take _
theorem md_append {m : Bool} : MtR X "list.append" (mR ca ea X W m .append) := by
  intro pins s σ H x xs v us Q I rx rxs ⟨w, h, a, l, σV, e, q, ra, rl, p⟩
  subst e
  cases a <;> first | exact False.elim p | skip
  rename_i n
  match l, rl with
  | [], _ => exact False.elim p
  | _ :: _ :: _, _ => exact False.elim p
  | [d], rl =>
    obtain ⟨y, rfl, rd⟩ := rl.one'
    simp only [metD] at p
    split at p
    · rename_i l' e'
      split at p
      · rename_i hz
        obtain ⟨a, vs, rfl, h1, r1, f⟩ := q.wrL e' ra p
        exact mt_append pins s σ _ _ _ v us Q I rx rxs ⟨a, vs, y, rfl, rfl, h1, by rw [← r1.length, ← sizeL_eq]; exact hz, f _ _ (r1.append (.cons rd .nil)) .non⟩
      · exact False.elim p
    · exact False.elim p
theorem md_pop0 {m : Bool} : MtR X "list.pop" (mR ca ea X W m .pop0) := by
  intro pins s σ H x xs v us Q I rx rxs ⟨w, h, a, l, σV, e, q, ra, rl, p⟩
  subst e
  cases a <;> first | exact False.elim p | skip
  rename_i n
  match l, rl with
  | _ :: _, _ => exact False.elim p
  | [], rl =>
    cases rl.nil'
    simp only [metD] at p
    split at p
    · rename_i l' e'
      split at p
      · rename_i d hd
        obtain ⟨a, vs, rfl, h1, r1, f⟩ := q.wrL e' ra p
        have hd' : l'[l'.length - 1]? = some d := by rw [← List.getLast?_eq_getElem?]; exact hd
        obtain ⟨y, hy, rd⟩ := r1.get hd'
        exact mt_pop pins s σ _ _ _ v us Q I rx rxs ⟨a, vs, y, rfl, rfl, h1, by rw [← r1.length]; exact hy, f _ _ r1.dropLast rd⟩
      · exact False.elim p
    · exact False.elim p
theorem md_pop1 {m : Bool} : MtR X "list.pop" (mR ca ea X W m .pop1) := by
  intro pins s σ H x xs v us Q I rx rxs ⟨w, h, a, l, σV, e, q, ra, rl, p⟩
  subst e
  cases a <;> first | exact False.elim p | skip
  rename_i n
  match l, rl with
  | [], _ => exact False.elim p
  | d :: _ :: _, _ => cases d <;> exact False.elim p
  | [d], rl =>
    cases d <;> first | exact False.elim p | skip
    rename_i i
    obtain ⟨y, rfl, rd⟩ := rl.one'
    cases rd.intI
    simp only [metD] at p
    split at p
    · rename_i l' e'
      split at p
      · rename_i h0
        split at p
        · rename_i d hd
          obtain ⟨a, vs, rfl, h1, r1, f⟩ := q.wrL e' ra p
          obtain ⟨y, hy, rd⟩ := r1.get hd
          have hlt := (List.getElem?_eq_some_iff.mp hy).1
          obtain ⟨_, its, n', r', hl, _⟩ := I.lstM h1
          obtain ⟨_, _, _, hz⟩ := I.list (SqL.of h1)
          have hsz : sizeLine = 16777216 := sizeLine_eq
          refine mt_popAt pins s σ _ _ _ v us Q I rx rxs ⟨a, vs, i, i.toNat, y, rfl, rfl, h1, by omega, by omega, ?_, hy, f _ _ (r1.eraseIdx _) rd⟩
          unfold seqIndex?
          have : ¬ i < 0 := by omega
          simp only [this, if_false]
          have h3 : (decide (i < 0) || decide (i ≥ (vs.length : Int))) = false := by
            simp only [Bool.or_eq_false_iff, decide_eq_false_iff_not]; omega
          first | (rw [h3]; rfl) | (simp; omega)
        · exact False.elim p
      · exact False.elim p
    · exact False.elim p
theorem md_extend {m : Bool} : MtR X "list.extend" (mR ca ea X W m .extend) := by
  intro pins s σ H x xs v us Q I rx rxs ⟨w, h, a, l, σV, e, q, ra, rl, p⟩
  subst e
  cases a <;> first | exact False.elim p | skip
  rename_i n
  match l, rl with
  | [], _ => exact False.elim p
  | _ :: _ :: _, _ => exact False.elim p
  | [d], rl =>
    obtain ⟨y, rfl, rd⟩ := rl.one'
    simp only [metD] at p
    split at p
    · rename_i l' r' e1 e2
      split at p
      · rename_i hc
        obtain ⟨a, vs, rfl, h1, r1, f⟩ := q.wrL e1 ra p
        obtain ⟨b, us', rfl, h2, r2⟩ := q.lstOf e2 rd
        exact mt_extend pins s σ _ _ _ v us Q I rx rxs ⟨a, b, vs, us', rfl, rfl, h1, h2, by rw [← r1.length, ← r2.length, ← sizeL_eq]; exact hc.1, f _ _ (r1.append r2) .non⟩
      · exact False.elim p
    · exact False.elim p
theorem md_clear {m : Bool} : MtR X "list.clear" (mR ca ea X W m .clear) := by
  intro pins s σ H x xs v us Q I rx rxs ⟨w, h, a, l, σV, e, q, ra, rl, p⟩
  subst e
  cases a <;> first | exact False.elim p | skip
  rename_i n
  match l, rl with
  | _ :: _, _ => exact False.elim p
  | [], rl =>
    cases rl.nil'
    simp only [metD] at p
    split at p
    · rename_i l' e'
      obtain ⟨a, vs, rfl, h1, r1, f⟩ := q.wrL e' ra p
      exact mt_clear pins s σ _ _ _ v us Q I rx rxs ⟨a, vs, rfl, rfl, h1, f _ _ .nil .non⟩
    · exact False.elim p
theorem md_insert {m : Bool} : MtR X "list.insert" (mR ca ea X W m .insert) := by
  intro pins s σ H x xs v us Q I rx rxs ⟨w, h, a, l, σV, e, q, ra, rl, p⟩
  subst e
  cases a <;> first | exact False.elim p | skip
  rename_i n
  match l, rl with
  | [], _ => exact False.elim p
  | [d], _ => cases d <;> exact False.elim p
  | d :: _ :: _ :: _, _ => cases d <;> exact False.elim p
  | [i, d], rl =>
    cases i <;> first | exact False.elim p | skip
    rename_i i
    obtain ⟨y, z, rfl, ri, rd⟩ := rl.two'
    cases ri.intI
    simp only [metD] at p
    split at p
    · rename_i l' e'
      split at p
      · rename_i hc
        obtain ⟨a, vs, rfl, h1, r1, f⟩ := q.wrL e' ra p
        obtain ⟨_, _, _, hz⟩ := I.list (SqL.of h1)
        have hsz : sizeLine = 16777216 := sizeLine_eq
        have hl := r1.length
        refine mt_insert pins s σ _ _ _ v us Q I rx rxs ⟨a, vs, i, z, rfl, rfl, h1, by rw [← hl, ← sizeL_eq]; exact hc.2.2, hc.1, by omega, ?_⟩
        have := f (vs.take i.toNat ++ z :: vs.drop i.toNat) .non ((r1.take _).append (.cons rd (r1.drop _))) .non
        simpa using this
      · exact False.elim p
    · exact False.elim p
theorem firstAt_spec {x : D} : ∀ (l : List D) (i j : Nat), firstAt x l i = some j → ∃ n z, j = i + n ∧ (D.toPyL l)[n]? = some z ∧ PyData.eqv z x.toPy = true ∧ ∀ (m : Nat) z', m < n → (D.toPyL l)[m]? = some z' → PyData.eqv z' x.toPy = false
  | [], i, j, e => by cases e
  | y :: r, i, j, e => by
    unfold firstAt at e
    split at e
    · rename_i hc
      cases e
      exact ⟨0, _, rfl, rfl, hc, fun m z' hm => absurd hm (Nat.not_lt_zero _)⟩
    · rename_i hc
      obtain ⟨n, z, e1, e2, e3, e4⟩ := firstAt_spec r (i + 1) j e
      refine ⟨n + 1, z, by omega, e2, e3, fun m z' hm hz => ?_⟩
      cases m with
      | zero =>
        simp only [D.toPyL, List.getElem?_cons_zero, Option.some.injEq] at hz
        subst hz
        simpa [D.eqv] using hc
      | succ m => exact e4 m z' (by omega) hz
theorem md_index {m : Bool} (hu : X.A.units + 65 < cLine) : MtR X "list.index" (mR ca ea X W m .index) := by
  intro pins s σ H x xs v us Q I rx rxs ⟨w, h, a, l, σV, e, q, ra, rl, p⟩
  subst e
  match l, rl with
  | [], _ => exact False.elim p
  | _ :: _ :: _, _ => exact False.elim p
  | [d], rl =>
    obtain ⟨y, rfl, rd⟩ := rl.one'
    simp only [metD] at p
    split at p
    · rename_i l' e1
      split at p
      · rename_i hc
        simp only [Bool.and_eq_true] at hc
        cases hf : firstAt d l' 0 with
        | none => rw [hf] at p; exact False.elim p
        | some j =>
          rw [hf] at p
          obtain ⟨a, vs, rfl, h1, r1⟩ := q.lstOf e1 ra
          obtain ⟨n, z, e1, e2, e3, e4⟩ := firstAt_spec l' 0 j hf
          have e1 : j = n := by omega
          subst e1
          obtain ⟨g1, s1⟩ := Rep.shaped rd hc.1
          obtain ⟨f1, f2, f3⟩ := RepL.dp l' vs 59 r1 hc.2
          refine mt_indexD hu pins s σ _ _ _ v us Q I rx rxs ⟨a, y, d.toPy, D.toPyL l', j, z, rfl, rfl, .lst (SqL.of h1) f1, g1, ?_, s1, e2, e3, e4, p.here q (Rep.int _)⟩
          unfold SeqAt.shaped
          simp only [Bool.and_eq_true, decide_eq_true_eq]
          have e5 : (PyData.list (D.toPyL l')).depth = PyData.depthAll (D.toPyL l') + 1 := by simp only [PyData.depth]
          refine ⟨by simpa only [PyData.canLay0] using f2, ?_⟩
          rw [e5]; omega
      · exact False.elim p
    · exact False.elim p
theorem RepL.of_strs {l : List Str} (h : l.all sOk = true) : RepL k w (l.map .str) (l.map V.str) := by
  induction l with
  | nil => exact .nil
  | cons s l ih =>
    simp only [List.all_cons, Bool.and_eq_true] at h
    exact .cons (Rep.str h.1) (ih h.2)
theorem joinLen_eq (a : Str) : ∀ l : List Str, (l.map (·.length)).sum + l.length * a.length = joinLen a l
  | [] => by simp [joinLen]
  | s :: l => by
    have ih := joinLen_eq a l
    unfold joinLen at ih ⊢
    simp only [List.map_cons, List.sum_cons, List.length_cons, Nat.succ_mul]
    omega
theorem join_ok {a : Str} : ∀ {l : List Str}, sOk a = true → (∀ s ∈ l, sOk s = true) → joinLen a l ≤ sizeL → sOk (Str.join a l) = true := by
  intro l ha hl hz
  rw [sOk_iff] at ha ⊢
  refine ⟨?_, ?_⟩
  · clear hz
    induction l with
    | nil => intro c hc; cases hc
    | cons s l ih =>
      have hs := (sOk_iff.mp (hl s List.mem_cons_self)).1
      cases l with
      | nil => exact hs
      | cons t l =>
        intro c hc
        have hc : c ∈ (s ++ a ++ Str.join a (t :: l)).cps.toList := hc
        rw [cps_append, cps_append] at hc
        rcases List.mem_append.mp hc with hc | hc
        · rcases List.mem_append.mp hc with hc | hc
          · exact hs c hc
          · exact ha.1 c hc
        · exact ih (fun u hu => hl u (List.mem_cons_of_mem _ hu)) c hc
  · have h1 := StrLaws.join_length_le a l
    have h2 := joinLen_eq a l
    have h3 : (Str.join a l).length = (Str.join a l).cps.toList.length := by simp [Str.length]
    omega
theorem md_join {m : Bool} : MtR X "str.join" (mR ca ea X W m .join) := by
  intro pins s σ H x xs v us Q I rx rxs ⟨w, h, a, l, σV, e, q, ra, rl, p⟩
  subst e
  cases a <;> first | exact False.elim p | skip
  rename_i a
  match l, rl with
  | [], _ => exact False.elim p
  | _ :: _ :: _, _ => exact False.elim p
  | [d], rl =>
    obtain ⟨y, rfl, rd⟩ := rl.one'
    have ka := ra.strK
    cases ra.strI
    simp only [metD] at p
    split at p
    · rename_i ss e1
      split at p
      · rename_i hz
        cases hs : seqOf h d with
        | none => rw [hs] at e1; cases e1
        | some l' =>
          rw [hs] at e1
          obtain ⟨b, vs, rfl, h1, r1⟩ := q.seq hs rd
          obtain ⟨rfl, ok⟩ := RepL.strs e1 r1
          have hj := join_ok ka ok hz
          have hl : (ss.map (·.length)).sum + ss.length * a.length ≤ 16777216 := by
            have := joinLen_eq a ss
            have h2 : sizeL = 16777216 := rfl
            omega
          refine mt_join pins s σ _ _ _ v us Q I rx rxs ⟨a, b, ss, rfl, rfl, h1, hl, ?_⟩
          have e3 : Txt.join a ss = Str.join a ss := StrLaws.glued_eq_join a ss
          rw [e3]
          exact p.here q (Rep.str hj)
      · exact False.elim p
    · exact False.elim p
theorem md_split {m : Bool} : MtR X "str.split" (mR ca ea X W m .split) := by
  intro pins s σ H x xs v us Q I rx rxs ⟨w, h, a, l, σV, e, q, ra, rl, p⟩
  subst e
  cases a <;> first | exact False.elim p | skip
  rename_i a
  match l, rl with
  | [], _ => exact False.elim p
  | d :: _ :: _, _ => cases d <;> exact False.elim p
  | [d], rl =>
    cases d <;> first | exact False.elim p | skip
    rename_i b
    obtain ⟨y, rfl, rd⟩ := rl.one'
    cases ra.strI; cases rd.strI
    simp only [metD] at p
    split at p
    · exact False.elim p
    · rename_i hc
      have h1 : ¬ b.length = 0 := fun z => hc (.inl z)
      have h2 : ¬ sizeL < a.length + 2 := fun z => hc (.inr (.inl z))
      have h3 : ((Txt.split a b).all sOk) = true := by
        cases e : (Txt.split a b).all sOk with
        | true => rfl
        | false => exact absurd (.inr (.inr e)) hc
      exact mt_split pins s σ _ _ _ v us Q I rx rxs ⟨a, b, rfl, rfl, by simpa using h1, by rw [← sizeL_eq]; omega, fun c hc => p.lst q (RepL.of_strs h3) hc⟩
theorem md_upper {m : Bool} : MtR X "str.upper" (mR ca ea X W m .upper) := by
  intro pins s σ H x xs v us Q I rx rxs ⟨w, h, a, l, σV, e, q, ra, rl, p⟩
  subst e
  cases a <;> first | exact False.elim p | skip
  rename_i a
  match l, rl with
  | _ :: _, _ => exact False.elim p
  | [], rl =>
    cases rl.nil'
    cases ra.strI
    simp only [metD] at p
    split at p
    · rename_i hc
      exact mt_upper pins s σ _ _ _ v us Q I rx rxs ⟨a, rfl, rfl, hc.1, p.here q (Rep.str hc.2)⟩
    · exact False.elim p
theorem md_partition {m : Bool} : MtR X "str.partition" (mR ca ea X W m .partition) := by
  intro pins s σ H x xs v us Q I rx rxs ⟨w, h, a, l, σV, e, q, ra, rl, p⟩
  exact False.elim p
end
end Dy
end

section
set_option linter.all false
set_option maxRecDepth 100000
set_option maxHeartbeats 1000000
set_option Elab.async false
namespace Dy
open PySem PySem.Spec PyProof.Rows L2
section
variable {ca : Str → Addr} {ea : Ec} {k : Kx} {W : Option WX} {X : Cx} {pos : Pos} {w : Wd} {h : Hh}
/-! ### isinstance -/
def Ty.nm : Ty → String
  | .int => "int"
  | .bool => "bool"
  | .str => "str"
  | .tuple => "tuple"
  | .list => "list"
  | .ec _ => ""
  | .own _ => ""
def tyN (h : Hh) : D → String
  | .non => "NoneType"
  | .bl _ => "bool"
  | .int _ => "int"
  | .str _ => "str"
  | .tup _ => "tuple"
  | _ => "list"
theorem kitB_non : kitB "NoneType" "int" = some false ∧ kitB "NoneType" "bool" = some false ∧ kitB "NoneType" "str" = some false ∧ kitB "NoneType" "tuple" = some false ∧ kitB "NoneType" "list" = some false := by decide +kernel
theorem kitB_bool : kitB "bool" "int" = some true ∧ kitB "bool" "bool" = some true ∧ kitB "bool" "str" = some false ∧ kitB "bool" "tuple" = some false ∧ kitB "bool" "list" = some false := by decide +kernel
theorem kitB_int : kitB "int" "int" = some true ∧ kitB "int" "bool" = some false ∧ kitB "int" "str" = some false ∧ kitB "int" "tuple" = some false ∧ kitB "int" "list" = some false := by decide +kernel
theorem kitB_str : kitB "str" "int" = some false ∧ kitB "str" "bool" = some false ∧ kitB "str" "str" = some true ∧ kitB "str" "tuple" = some false ∧ kitB "str" "list" = some false := by decide +kernel
theorem kitB_tup : kitB "tuple" "int" = some false ∧ kitB "tuple" "bool" = some false ∧ kitB "tuple" "str" = some false ∧ kitB "tuple" "tuple" = some true ∧ kitB "tuple" "list" = some false := by decide +kernel
theorem kitB_lst : kitB "list" "int" = some false ∧ kitB "list" "bool" = some false ∧ kitB "list" "str" = some false ∧ kitB "list" "tuple" = some false ∧ kitB "list" "list" = some true := by decide +kernel
theorem kit_has {x : D} {t : Ty} (kn : known h x = true) (tb : t.isB = true) : kitB (tyN h x) t.nm = some (t.has h x) := by
  cases x <;> first | cases kn | skip
  · cases t <;> first | cases tb | skip
    · exact kitB_non.1
    · exact kitB_non.2.1
    · exact kitB_non.2.2.1
    · exact kitB_non.2.2.2.1
    · exact kitB_non.2.2.2.2
  · cases t <;> first | cases tb | skip
    · exact kitB_bool.1
    · exact kitB_bool.2.1
    · exact kitB_bool.2.2.1
    · exact kitB_bool.2.2.2.1
    · exact kitB_bool.2.2.2.2
  · cases t <;> first | cases tb | skip
    · exact kitB_int.1
    · exact kitB_int.2.1
    · exact kitB_int.2.2.1
    · exact kitB_int.2.2.2.1
    · exact kitB_int.2.2.2.2
  · cases t <;> first | cases tb | skip
    · exact kitB_str.1
    · exact kitB_str.2.1
    · exact kitB_str.2.2.1
    · exact kitB_str.2.2.2.1
    · exact kitB_str.2.2.2.2
  · cases t <;> first | cases tb | skip
    · exact kitB_tup.1
    · exact kitB_tup.2.1
    · exact kitB_tup.2.2.1
    · exact kitB_tup.2.2.2.1
    · exact kitB_tup.2.2.2.2
  · cases t <;> first | cases tb | skip
    · exact kitB_lst.1
    · exact kitB_lst.2.1
    · exact kitB_lst.2.2.1
    · exact kitB_lst.2.2.2.1
    · exact kitB_lst.2.2.2.2
  · rename_i n
    simp only [known] at kn
    split at kn
    · rename_i l e
      cases t <;> first | cases tb | skip
      · exact kitB_lst.1
      · exact kitB_lst.2.1
      · exact kitB_lst.2.2.1
      · exact kitB_lst.2.2.2.1
      · simp only [Ty.has, e]; exact kitB_lst.2.2.2.2
    · cases kn
theorem tyX_of {x : D} {v : V} (q : WR (kX X ca ea) w h) (kn : known h x = true) (r : Rep (kX X ca ea) w x v) : TyX X.K w.H v (.type (tyN h x)) := by
  cases x <;> first | cases kn | skip
  · cases r.nonI; exact .base .non
  · cases r.blI; exact .base (.bl _)
  · cases r.intI; exact .base (.int _)
  · cases r.strI; exact .base (.str _)
  · obtain ⟨a, vs, rfl, h1, _⟩ := r.tupI
    rcases h1 with ⟨o, _, h1, _⟩ | ⟨o, its, n, _, h1, h2, _⟩
    · exact .fTuple h1
    · exact .kTuple h1 h2
  · obtain ⟨a, vs, rfl, h1, _⟩ := r.lstI
    exact .base (.lst h1.1)
  · rename_i n
    simp only [known] at kn
    split at kn
    · rename_i l e
      obtain ⟨a, vs, rfl, _, h1, _⟩ := q.lst e r
      exact .base (.lst h1)
    · cases kn
/-- what isinstance tells -/
def isiD (ts : List Ty) (x : D) (h : Hh) : R D := if known h x && ts.all Ty.isB then .ok (.bl (ts.any fun t => t.has h x)) h else .bad
theorem bl_isi1 {t : Ty} : CallR X (.builtin "isinstance") (fun xs H Q => ∃ x w h a σV, xs = [x, .ty t.nm] ∧ w.H = H ∧ WR (kX X ca ea) w h ∧ Rep (kX X ca ea) w a x ∧ post (kX X ca ea) W (Rep (kX X ca ea)) w σV (isiD [t] a h) Q) := by
  intro pins s σ H xs us Q I r ⟨x, w, h, a, σV, e1, e, q, ra, p⟩
  subst e; subst e1
  unfold isiD at p
  split at p
  · rename_i hc
    simp only [Bool.and_eq_true, List.all_cons, List.all_nil] at hc
    refine call_isi pins s σ _ _ us Q I r ⟨x, .ty t.nm, _, _, _, rfl, .ty _, tyX_of q hc.1 ra, kit_ty (kit_has hc.1 hc.2.1), ?_⟩
    have := p.here q (Rep.bl _)
    simpa using this
  · exact False.elim p
theorem kitAny_has {K : PySem.W.Frag} {x : D} (kn : known h x = true) : ∀ ts : List Ty, ts.all Ty.isB = true → PySem.W.kitAny K (.type (tyN h x)) (ts.map fun t => .type t.nm) = some (ts.any fun t => t.has h x)
  | [], _ => rfl
  | t :: ts, hb => by
    simp only [List.all_cons, Bool.and_eq_true] at hb
    refine kitAny_cons (kit_ty (kit_has kn hb.1)) (fun e => ?_) (fun e => ?_)
    · rw [kitAny_has kn ts hb.2]; simp [e]
    · simp [e]
theorem clsV_all : ∀ ts : List Ty, Paired ClsV (ts.map fun t => V.ty t.nm) (ts.map fun t => Value.type t.nm)
  | [] => .nil
  | t :: ts => .cons (.ty _) (clsV_all ts)
theorem bl_isiT {ts : List Ty} : CallR X (.builtin "isinstance") (fun xs H Q => ∃ x tp w h a σV, xs = [x, .ref tp] ∧ H tp = some (.tup (ts.map fun t => V.ty t.nm)) ∧ w.H = H ∧ WR (kX X ca ea) w h ∧ Rep (kX X ca ea) w a x ∧ post (kX X ca ea) W (Rep (kX X ca ea)) w σV (isiD ts a h) Q) := by
  intro pins s σ H xs us Q I r ⟨x, tp, w, h, a, σV, e1, ht, e, q, ra, p⟩
  subst e; subst e1
  unfold isiD at p
  split at p
  · rename_i hc
    simp only [Bool.and_eq_true] at hc
    exact call_isiT pins s σ _ _ us Q I r ⟨x, tp, _, _, _, _, rfl, ht, clsV_all ts, tyX_of q hc.1 ra, kitAny_has hc.1 ts hc.2, p.here q (Rep.bl _)⟩
  · exact False.elim p
/-! ### -x -/
theorem un_negD : UnR X (unaryOp .USub) (r1 (kX X ca ea) W fun a h => match a with
    | .int i => .ok (.int (-i)) h
    | _ => .bad) := by
  intro pins s σ H x v Q I rx ⟨w, h, a, σV, e, q, ra, p⟩
  subst e
  cases a <;> first | exact False.elim p | skip
  cases ra.intI
  exact un_neg pins s σ _ _ _ _ I rx ⟨_, rfl, p.here q (Rep.int _)⟩
/-! ### list(range(..)) -/
theorem rng_rep (a b : Int) : RepL k w (rangeL a b) (rgV a b) := by
  unfold rangeL rgV
  generalize List.range (b - a).toNat = l
  induction l with
  | nil => exact .nil
  | cons i l ih => exact .cons (Rep.int _) ih
end
end Dy
end

section
set_option linter.all false
set_option maxRecDepth 100000
set_option maxHeartbeats 1000000
set_option Elab.async false
namespace Dy
open PySem PySem.Spec PyProof.Rows L2
/-! ### what is walked -/
section
variable (k : Kx)
/-- J walks the items of s, from the world w on -/
def JR (w : Wd) : Src → It → Prop
  | .its l, J => (∀ i w', w.li w' → i < l.length → J.go i w'.H) ∧ (∀ i w', w.li w' → l.length ≤ i → J.stop i w'.H) ∧
      ∀ i d w' h v H', w.li w' → WR k w' h → l[i]? = some d → J.yld i w'.H v H' → ∃ w'', w''.H = H' ∧ w'.le w'' ∧ WR k w'' h ∧ Rep k w'' d v
  | .live n, J => ∃ a, w.m[n]? = some (some a) ∧ J = Itl k.K a
end
section
variable {k : Kx} {W : Option WX} {X : Cx} {w w' : Wd} {h : Hh} {tg : Expr}
theorem JR.mono {s : Src} {J : It} (x : w.le w') (j : JR k w s J) (ob : ∀ n, s = .live n → WR k w' h ∧ ∃ l, h[n]? = some (.lst l)) : JR k w' s J := by
  cases s with
  | its l =>
    obtain ⟨j1, j2, j3⟩ := j
    exact ⟨fun i w2 y => j1 i w2 (x.li.trans y), fun i w2 y => j2 i w2 (x.li.trans y), fun i d w2 h v H' y => j3 i d w2 h v H' (x.li.trans y)⟩
  | live n =>
    obtain ⟨a, ha, rfl⟩ := j
    obtain ⟨q, l, e⟩ := ob n rfl
    obtain ⟨b, hb⟩ := q.alive n _ e rfl
    have hn : n < w.m.length := (List.getElem?_eq_some_iff.mp ha).1
    have := x.old n b hn hb
    rw [ha] at this; cases this
    exact ⟨a, hb, rfl⟩
/-- a list or a tuple, walked -/
theorem pi_seq {l : Expr} {tl : TE} (hl : PE X l tl) : PI X tg l (fun σ H R => tl σ H fun x H1 => ∃ a, x = .ref a ∧ (((∃ xs, SqL X.K H1 a xs) ∧ R (Itl X.K a) H1) ∨ ((∃ xs, SqT X.K H1 a xs) ∧ R (Itt X.K a) H1))) := by
  refine ⟨fun pins s σ H R I h => ?_⟩
  refine thn (hl.run pins s σ H _ I h) fun v s1 ⟨x, H1, I1, r1, q1⟩ => ?_
  obtain ⟨a, e, q⟩ := q1
  subst e
  cases r1
  rcases q with ⟨⟨xs, hq⟩, q⟩ | ⟨⟨xs, hq⟩, q⟩
  · obtain ⟨its, rv, p, hz⟩ := I1.list hq
    refine wpAny_pyIter_list p.isList ?_
    refine ⟨s1.heap.objs.size, [s1.heap.objs.size], _, _, H1, rfl, I1.kept (t' := s1.toks) fun b o e => Heap.get?_push_of_some _ e, turn_list a _, ⟨_, Heap.get?_push_size _ rfl, rfl, rfl⟩, fun b hb => ?_, q⟩
    have e : b = s1.heap.objs.size := by simpa using hb
    subst e
    exact I1.fpOk (Nat.le_refl _) (I1.hok.fresh (Nat.le_refl _))
  · obtain ⟨its, rv, p, hz⟩ := I1.tuple hq
    refine wpAny_pyIter_tuple (show s1.heap.IsTuple a its.toArray from p) ?_
    refine ⟨s1.heap.objs.size, [s1.heap.objs.size], _, _, H1, rfl, I1.kept (t' := s1.toks) fun b o e => Heap.get?_push_of_some _ e, turn_tuple a _, ⟨_, Heap.get?_push_size _ rfl, rfl, rfl⟩, fun b hb => ?_, q⟩
    have e : b = s1.heap.objs.size := by simpa using hb
    subst e
    exact I1.fpOk (Nat.le_refl _) (I1.hok.fresh (Nat.le_refl _))
theorem PI.imp {iter : Expr} {t t' : TI} (h : PI X tg iter t) (i : ∀ σ H R, t' σ H R → t σ H R) : PI X tg iter t' := ⟨fun pins s σ H R I q => h.run pins s σ H R I (i σ H R q)⟩
theorem jr_itl {a : Addr} {l : List D} {vs : List V} (st : StL w a vs) (r : RepL k w l vs) : JR k w (.its l) (Itl k.K a) := by
  refine ⟨fun i w' x hi => ?_, fun i w' x hi => ?_, fun i d w' h v H' x q e y => ?_⟩
  · exact ⟨vs, vs[i]'(by rw [← r.length]; exact hi), (st.mono x).sq, List.getElem?_eq_getElem _⟩
  · exact ⟨vs, (st.mono x).sq, by rw [← r.length]; exact hi⟩
  · obtain ⟨e1, y⟩ := y
    obtain ⟨u, hu, ru⟩ := (RepL.mono x l vs r).get e
    have := y vs (st.mono x).sq
    rw [hu] at this; cases this
    exact ⟨w', e1.symm, q.refl, q, ru⟩
theorem jr_itt {a : Addr} {l : List D} {vs : List V} (st : StT k.K w a vs) (r : RepL k w l vs) : JR k w (.its l) (Itt k.K a) := by
  refine ⟨fun i w' x hi => ?_, fun i w' x hi => ?_, fun i d w' h v H' x q e y => ?_⟩
  · exact ⟨vs, vs[i]'(by rw [← r.length]; exact hi), (st.mono x).sq, List.getElem?_eq_getElem _⟩
  · exact ⟨vs, (st.mono x).sq, by rw [← r.length]; exact hi⟩
  · obtain ⟨e1, y⟩ := y
    obtain ⟨u, hu, ru⟩ := (RepL.mono x l vs r).get e
    have := y vs (st.mono x).sq
    rw [hu] at this; cases this
    exact ⟨w', e1.symm, q.refl, q, ru⟩
theorem jr_rng {a b : Int} : JR k w (.its (rangeL a b)) (Itr a (b - a).toNat) := by
  have hl : (rangeL a b).length = (b - a).toNat := by unfold rangeL; simp
  refine ⟨fun i w' x hi => by rw [hl] at hi; exact hi, fun i w' x hi => by rw [hl] at hi; exact hi, fun i d w' h v H' x q e y => ?_⟩
  obtain ⟨e1, rfl⟩ := y
  refine ⟨w', e1.symm, q.refl, q, ?_⟩
  unfold rangeL at e
  rw [List.getElem?_map] at e
  cases hr : (List.range (b - a).toNat)[i]? with
  | none => rw [hr] at e; cases e
  | some j =>
    rw [hr] at e; cases e
    have : j = i := by
      obtain ⟨h1, h2⟩ := List.getElem?_eq_some_iff.mp hr
      simpa using h2.symm
    subst this
    exact Rep.int _
abbrev srcE (r : Sl → Hh → R D) : Sl → Hh → R Src := fun σ h => (r σ h).bind fun s h => R.opt (srcOf h s) h
abbrev tI (k : Kx) (W : Option WX) (r : Sl → Hh → R Src) : TI := tX k W (JR k) r
theorem pi_any {ca : Str → Addr} {ea : Ec} {e : Expr} {r : Sl → Hh → R D} (he : PE X e (tE (kX X ca ea) W r)) : PI X tg e (tI (kX X ca ea) W (srcE r)) := by
  refine PI.imp (pi_seq he) fun σV H Z p => ?_
  refine (tX.bind (Rm := Rep (kX X ca ea)) p).imp fun x H1 ⟨w1, σ, a, h1, e1, q1, s1, r1, p1⟩ => ?_
  subst e1
  cases a <;> simp only [srcOf, R.opt_none, R.opt_some] at p1 <;> try exact False.elim p1
  · obtain ⟨b, vs, rfl, h2, r2⟩ := r1.tupI
    exact ⟨b, rfl, .inr ⟨⟨vs, h2.sq⟩, p1.here q1 (jr_itt (k := kX X ca ea) h2 r2)⟩⟩
  · obtain ⟨b, vs, rfl, h2, r2⟩ := r1.lstI
    exact ⟨b, rfl, .inl ⟨⟨vs, SqL.of h2.1⟩, p1.here q1 (jr_itl (k := kX X ca ea) h2 r2)⟩⟩
  · rename_i n
    split at p1
    · rename_i l e'
      obtain ⟨b, vs, rfl, hb, h2, r2⟩ := q1.lst e' r1
      exact ⟨b, rfl, .inl ⟨⟨vs, SqL.of h2⟩, p1.here q1 ⟨b, hb, rfl⟩⟩⟩
    · exact False.elim p1
theorem evalL_bind {α : Type} (r : R D) (F : List D → Hh → R α) : (r.bind fun x h => F (asTup x) h) = (rowR r).bind F := by cases r <;> rfl
/-- rows of arguments, then F -/
theorem tX.row {ca : Str → Addr} {ea : Ec} {α β : Type} {Rl : Wd → α → β → Prop} {r : Sl → Hh → R D} {F : List D → Hh → R α} {σV : L2.St} {H : Hp} {Q : β → Hp → Prop}
    (p : tX (kX X ca ea) W Rl (fun σ h => (r σ h).bind fun x h => F (asTup x) h) σV H Q) :
    tA (kX X ca ea) W (fun σ h => rowR (r σ h)) σV H (fun b H1 => ∃ w1 σ a h1, w1.H = H1 ∧ WR (kX X ca ea) w1 h1 ∧ Sr (kX X ca ea) w1 σ σV ∧ RepL (kX X ca ea) w1 a b ∧ post (kX X ca ea) W Rl w1 σV (F a h1) Q) :=
  tX.bind (p.eq fun σ h => evalL_bind (r σ h) F)
theorem smallI_bd {i : Int} (h : smallI i = true) : -(2 ^ 62) ≤ i ∧ i < 2 ^ 62 := by
  simp only [smallI, Bool.and_eq_true, decide_eq_true_eq] at h
  omega
theorem rng_cases {l : List D} {m : List D} (e : rngD l = some m) : (∃ j, l = [.int j] ∧ smallI j = true ∧ m = rangeL 0 j) ∨ ∃ i j, l = [.int i, .int j] ∧ smallI i = true ∧ smallI j = true ∧ m = rangeL i j := by
  unfold rngD at e
  split at e
  · rename_i j
    split at e
    · rename_i hc; cases e; exact .inl ⟨j, rfl, hc, rfl⟩
    · cases e
  · rename_i i j
    split at e
    · rename_i hc; cases e; exact .inr ⟨i, j, rfl, (Bool.and_eq_true_iff.mp hc).1, (Bool.and_eq_true_iff.mp hc).2, rfl⟩
    · cases e
  · cases e
/-- range(..)'s items -/
def rngR (r : R D) : R D := r.bind fun x h => (R.opt (rngD (asTup x)) h).bind fun l h => if l.length ≤ sizeL then .ok (.tup l) h else .bad
theorem rng_e (r : R D) : ((rngR r).bind fun s h => R.opt (srcOf h s) h) = (rowR r).bind fun l h => ((R.opt (rngD l) h).bind fun l h => if l.length ≤ sizeL then .ok (.tup l) h else .bad).bind fun s h => R.opt (srcOf h s) h := by
  cases r <;> rfl
theorem pi_rng1 {ca : Str → Addr} {ea : Ec} {a : Expr} {r : Sl → Hh → R D} {p pos : Pos} (hg : Gl X "range") (hm : X.mg "range" = none) (ha : PA X [a] (tA (kX X ca ea) W fun σ h => rowR (r σ h)))
    (hs : starEach [a] X.env = [(false, eval a X.env)]) (h1 : ∀ σ h l h', rowR (r σ h) = .ok l h' → l.length = 1) : PI X tg (.Call (.Name "range" p) [a] [] pos) (tI (kX X ca ea) W (srcE fun σ h => rngR (r σ h))) := by
  refine PI.imp (pi_range1 hg hm ha hs) fun σV H Z q => ?_
  obtain ⟨w, σ, h, rfl, qw, s, q⟩ := q
  refine ⟨w, σ, h, rfl, qw, s, ?_⟩
  have q : post (kX X ca ea) W (JR (kX X ca ea)) w σV ((rowR (r σ h)).bind fun l h => ((R.opt (rngD l) h).bind fun l h => if l.length ≤ sizeL then .ok (.tup l) h else .bad).bind fun s h => R.opt (srcOf h s) h) Z := by
    rw [← rng_e]; exact q
  show post (kX X ca ea) W (RepL (kX X ca ea)) w σV (rowR (r σ h)) _
  generalize hr : rowR (r σ h) = rr at q ⊢
  cases rr with
  | bad => exact False.elim q
  | ex c l h' => exact q
  | ok l h' =>
    have hl := h1 σ h l h' hr
    simp only [R.bind_ok] at q
    cases hd : rngD l with
    | none => rw [hd] at q; exact False.elim q
    | some m =>
      rw [hd] at q
      simp only [R.opt_some, R.bind_ok] at q
      split at q
      · simp only [R.bind_ok, srcOf, R.opt_some] at q
        rcases rng_cases hd with ⟨j, rfl, b1, rfl⟩ | ⟨i, j, rfl, _⟩
        · intro w' vs x qw' rl
          obtain ⟨y, rfl, ry⟩ := rl.one'
          cases ry.intI
          obtain ⟨b1, b2⟩ := smallI_bd b1
          refine ⟨j, rfl, b1, b2, ?_⟩
          have j' : JR (kX X ca ea) w' (.its (rangeL 0 j)) (Itr 0 (j - 0).toNat) := jr_rng
          rw [Int.sub_zero] at j'
          exact q w' _ x qw' j'
        · cases hl
      · exact False.elim q
theorem pi_rng2 {ca : Str → Addr} {ea : Ec} {a b : Expr} {r : Sl → Hh → R D} {p pos : Pos} (hg : Gl X "range") (hm : X.mg "range" = none) (ha : PA X [a, b] (tA (kX X ca ea) W fun σ h => rowR (r σ h)))
    (hs : starEach [a, b] X.env = [(false, eval a X.env), (false, eval b X.env)]) (hs2 : starEach [b] X.env = [(false, eval b X.env)]) (h1 : ∀ σ h l h', rowR (r σ h) = .ok l h' → l.length = 2) : PI X tg (.Call (.Name "range" p) [a, b] [] pos) (tI (kX X ca ea) W (srcE fun σ h => rngR (r σ h))) := by
  refine PI.imp (pi_range2 hg hm ha hs hs2) fun σV H Z q => ?_
  obtain ⟨w, σ, h, rfl, qw, s, q⟩ := q
  refine ⟨w, σ, h, rfl, qw, s, ?_⟩
  have q : post (kX X ca ea) W (JR (kX X ca ea)) w σV ((rowR (r σ h)).bind fun l h => ((R.opt (rngD l) h).bind fun l h => if l.length ≤ sizeL then .ok (.tup l) h else .bad).bind fun s h => R.opt (srcOf h s) h) Z := by
    rw [← rng_e]; exact q
  show post (kX X ca ea) W (RepL (kX X ca ea)) w σV (rowR (r σ h)) _
  generalize hr : rowR (r σ h) = rr at q ⊢
  cases rr with
  | bad => exact False.elim q
  | ex c l h' => exact q
  | ok l h' =>
    have hl := h1 σ h l h' hr
    simp only [R.bind_ok] at q
    cases hd : rngD l with
    | none => rw [hd] at q; exact False.elim q
    | some m =>
      rw [hd] at q
      simp only [R.opt_some, R.bind_ok] at q
      split at q
      · simp only [R.bind_ok, srcOf, R.opt_some] at q
        rcases rng_cases hd with ⟨j, rfl, _⟩ | ⟨i, j, rfl, b1, b2, rfl⟩
        · cases hl
        · intro w' vs x qw' rl
          obtain ⟨y, z, rfl, ry, rz⟩ := rl.two'
          cases ry.intI; cases rz.intI
          obtain ⟨b1, b3⟩ := smallI_bd b1
          obtain ⟨b2, b4⟩ := smallI_bd b2
          exact ⟨i, j, rfl, ⟨b1, b3, b2, b4⟩, q w' _ x qw' jr_rng⟩
      · exact False.elim q
/-! ### targets -/
/-- a target takes a value -/
def gD (k : Kx) (t : Tg) : TG := fun x σV H Q => ∃ w σ h d σ', w.H = H ∧ WR k w h ∧ Sr k w σ σV ∧ Rep k w d x ∧ setT t d σ h = some σ' ∧
  ∀ σV', Sr k w σ' σV' → (∀ i, i ∉ t.slots → σV'[i]? = σV[i]?) → σV'.length = σV.length → Q σV' H
/-- .. several -/
def gsD (k : Kx) (t : Tg) : TGs := fun xs σV H Q => ∃ w σ h l σ', w.H = H ∧ WR k w h ∧ Sr k w σ σV ∧ RepL k w l xs ∧ setT t (.tup l) σ h = some σ' ∧
  ∀ σV', Sr k w σ' σV' → (∀ i, i ∉ t.slots → σV'[i]? = σV[i]?) → σV'.length = σV.length → Q σV' H
theorem Sr.set {w : Wd} {σ : Sl} {σV : L2.St} (s : Sr k w σ σV) (i : Nat) {d : D} {v : V} (r : Rep k w d v) : Sr k w (σ.set i (some d)) (σV.set i (some v)) := by
  refine ⟨by rw [List.length_set, List.length_set]; exact s.1, fun j e he => ?_⟩
  by_cases hj : i = j
  · subst hj
    rw [List.getElem?_set] at he
    simp only [if_true] at he
    split at he
    · rename_i hl
      cases he
      exact ⟨v, by rw [List.getElem?_set]; simp [Nat.lt_of_lt_of_le hl s.1], r⟩
    · cases he
  · rw [List.getElem?_set_ne hj] at he
    obtain ⟨u, h1, h2⟩ := s.2 j e he
    exact ⟨u, by rw [List.getElem?_set_ne hj]; exact h1, h2⟩
theorem Sr.setN {w : Wd} {σ : Sl} {σV : L2.St} (s : Sr k w σ σV) (i : Nat) : Sr k w (σ.set i none) (σV.set i none) := by
  refine ⟨by rw [List.length_set, List.length_set]; exact s.1, fun j e he => ?_⟩
  by_cases hj : i = j
  · subst hj
    rw [List.getElem?_set] at he
    simp only [if_true] at he
    split at he <;> cases he
  · rw [List.getElem?_set_ne hj] at he
    obtain ⟨u, h1, h2⟩ := s.2 j e he
    exact ⟨u, by rw [List.getElem?_set_ne hj]; exact h1, h2⟩
theorem Sr.wipe {w : Wd} {σ : Sl} {σV : L2.St} (s : Sr k w σ σV) : ∀ l : List Nat, Sr k w (clr σ l) (L2.wipe σV l)
  | [] => s
  | i :: l => (Sr.wipe s l).setN i
theorem PG.imp {e : Expr} {t t' : TG} (h : PG X e t) (i : ∀ x σ H Q, t' x σ H Q → t x σ H Q) : PG X e t' := ⟨fun pins s σ H v u Q I r q => h.run pins s σ H v u Q I r (i v σ H Q q)⟩
theorem PGs.imp {e : List Expr} {t t' : TGs} (h : PGs X e t) (i : ∀ x σ H Q, t' x σ H Q → t x σ H Q) : PGs X e t' := ⟨fun pins s σ H v u Q I r q => h.run pins s σ H v u Q I r (i v σ H Q q)⟩
theorem pgd_name {i : Nat} {x : Str} {pos : Pos} (hN : X.N.Nodup) (hi : X.N[i]? = some x) (hx : Loc X.env.scope x) (hf : X.fn x = true ∨ X.env.scope.names.lookup x = some .local) : PG X (.Name x pos) (gD k (.nm i)) :=
  PG.imp (pg_name hN hi hx hf) fun v σV H Q ⟨w, σ, h, d, σ', e, q, s, r, st, f⟩ => by
    simp only [setT] at st
    cases st
    refine f _ (s.set i r) (fun j hj => ?_) (List.length_set ..)
    have : i ≠ j := fun z => hj (by simp [Tg.slots, z])
    exact List.getElem?_set_ne this
theorem pgds_nil : PGs X [] (gsD k .nil) :=
  PGs.imp pgs_nil fun xs σV H Q ⟨w, σ, h, l, σ', e, q, s, r, st, f⟩ => by
    cases l with
    | nil => simp only [setT] at st; cases st; exact ⟨r.nil', f _ s (fun _ _ => rfl) rfl⟩
    | cons d l => simp [setT] at st
def Tg.isStar : Tg → Bool
  | .star _ => true
  | _ => false
theorem setT_cons {a r : Tg} {d : D} {l : List D} {σ σ' : Sl} {h : Hh} (ns : a.isStar = false) (e : setT (.cons a r) (.tup (d :: l)) σ h = some σ') : ∃ σ1, setT a d σ h = some σ1 ∧ setT r (.tup l) σ1 h = some σ' := by
  have e2 : setT (.cons a r) (.tup (d :: l)) σ h = match setT a d σ h with
      | some σ => setT r (.tup l) σ h
      | none => none := by
    cases a <;> first | (exact Bool.noConfusion ns) | (simp only [setT]; done) | rfl
  rw [e2] at e
  split at e
  · rename_i σ1 e1; exact ⟨σ1, e1, e⟩
  · cases e
theorem setT_cons0 {a r : Tg} {σ σ' : Sl} {h : Hh} (ns : a.isStar = false) (e : setT (.cons a r) (.tup []) σ h = some σ') : False := by
  cases a <;> first | cases ns | skip
  all_goals simp [setT] at e
theorem pgds_cons {e : Expr} {es : List Expr} {t u : Tg} (h1 : PG X e (gD k t)) (h2 : PGs X es (gsD k u)) (ns : t.isStar = false)
    (hs : (assignEach (e :: es) X.env).map (·.2) = assign e X.env :: (assignEach es X.env).map (·.2)) : PGs X (e :: es) (gsD k (.cons t u)) :=
  PGs.imp (pgs_cons h1 h2 hs) fun xs σV H Q ⟨w, σ, h, l, σ', e, q, s, r, st, f⟩ => by
    cases l with
    | nil => exact (setT_cons0 ns st).elim
    | cons d l =>
      simp only [RepL] at r
      obtain ⟨v, vr, rfl, r1, r2⟩ := r
      obtain ⟨σ1, e1, e2⟩ := setT_cons ns st
      refine ⟨v, vr, rfl, w, σ, h, d, σ1, e, q, s, r1, e1, fun σV1 s1 n1 l1 => ?_⟩
      refine ⟨w, σ1, h, l, σ', e, q, s1, r2, e2, fun σV2 s2 n2 l2 => f σV2 s2 (fun i hi => ?_) (l2.trans l1)⟩
      simp only [Tg.slots, List.mem_append] at hi
      rw [n2 i (fun z => hi (.inr z)), n1 i (fun z => hi (.inl z))]
end
end Dy
end

section
set_option linter.all false
set_option maxRecDepth 100000
set_option maxHeartbeats 1000000
set_option Elab.async false
namespace Dy
open PySem PySem.Spec PyProof.Rows L2
section
variable {k : Kx} {W : Option WX} {X : Cx} {w w' : Wd} {h : Hh} {tg : Expr}
/-- the kept place becomes a thing of ours -/
def Wd.adopt (w : Wd) (p : Addr) : Wd := ⟨w.L, w.m ++ [some p], w.H⟩
theorem adopt_get {p a : Addr} {i : Nat} (e : (w.adopt p).m[i]? = some (some a)) : (i < w.m.length ∧ w.m[i]? = some (some a)) ∨ (i = w.m.length ∧ a = p) := by
  have e : (w.m ++ [some p])[i]? = some (some a) := e
  by_cases hi : i < w.m.length
  · rw [List.getElem?_append_left hi] at e; exact .inl ⟨hi, e⟩
  · rw [List.getElem?_append_right (Nat.le_of_not_lt hi)] at e
    cases hj : i - w.m.length with
    | zero => rw [hj] at e; simp at e; exact .inr ⟨by omega, e.symm⟩
    | succ j => rw [hj] at e; simp at e
theorem li_adopt {p : Addr} : w.li (w.adopt p) := ⟨by show _ ≤ (w.m ++ [some p]).length; simp, fun i a hi e => by
  rcases adopt_get e with ⟨_, e⟩ | ⟨hi', _⟩
  · exact e
  · omega, fun _ _ z => z, fun _ _ z => z⟩
theorem le_adopt {w0 : Wd} (x : w0.le w) {p : Addr} (hp : w0.H p = none) : w0.le (w.adopt p) where
  len := Nat.le_trans x.len li_adopt.len
  old := fun i a hi e => by
    rcases adopt_get e with ⟨_, e⟩ | ⟨hi', _⟩
    · exact x.old i a hi e
    · have := x.len; omega
  new := fun i a hi e => by
    rcases adopt_get e with ⟨_, e⟩ | ⟨_, rfl⟩
    · exact x.new i a hi e
    · exact hp
  L := x.L
  keep := x.keep
  trk := x.trk
  live := x.live
  hold := x.hold
theorem WR.adopt (q : WR k w h) {p : Addr} (hp : w.held p) {b : Ob} (r : RepO k w p b) (nd : b.live = true) : WR k (w.adopt p) (h ++ [b]) := by
  have hg : ∀ {i : Nat} {c : Ob}, (h ++ [b])[i]? = some c → (i < h.length ∧ h[i]? = some c) ∨ (i = h.length ∧ c = b) := fun {i c} e => by
    by_cases hi : i < h.length
    · rw [List.getElem?_append_left hi] at e; exact .inl ⟨hi, e⟩
    · rw [List.getElem?_append_right (Nat.le_of_not_lt hi)] at e
      cases hj : i - h.length with
      | zero => rw [hj] at e; simp at e; exact .inr ⟨by omega, e.symm⟩
      | succ j => rw [hj] at e; simp at e
  refine ⟨by show (w.m ++ [some p]).length = _; simp [q.len], fun i c d e1 e2 => ?_, fun i c d e1 lv e2 => ?_, fun i c e1 e2 => ?_, fun i j d e1 e2 => ?_, fun i d e => ?_, q.trk, fun i c l e => ?_, fun a i dd e => by rw [List.length_append]; exact Nat.lt_of_lt_of_le (q.hid a i dd e) (Nat.le_add_right _ _)⟩
  · rcases adopt_get e2 with ⟨hi, e2⟩ | ⟨hi, rfl⟩
    · rcases hg e1 with ⟨_, e1⟩ | ⟨z, _⟩
      · exact (q.obs i c d e1 e2).mono li_adopt rfl
      · rw [q.len] at hi; omega
    · rcases hg e1 with ⟨z, _⟩ | ⟨_, rfl⟩
      · rw [q.len] at hi; omega
      · exact r.mono li_adopt rfl
  · rcases adopt_get e2 with ⟨hi, e2⟩ | ⟨hi, rfl⟩
    · rcases hg e1 with ⟨_, e1⟩ | ⟨z, _⟩
      · exact q.dead i c d e1 lv e2
      · rw [q.len] at hi; omega
    · rcases hg e1 with ⟨z, _⟩ | ⟨_, z⟩
      · rw [q.len] at hi; omega
      · rw [z, nd] at lv; cases lv
  · rcases hg e1 with ⟨hi, e1⟩ | ⟨hi, _⟩
    · obtain ⟨a, ha⟩ := q.alive i c e1 e2
      exact ⟨a, by show (w.m ++ [some p])[i]? = _; rw [List.getElem?_append_left (by rw [q.len]; exact hi)]; exact ha⟩
    · exact ⟨p, by show (w.m ++ [some p])[i]? = _; rw [List.getElem?_append_right (by rw [q.len, hi]; exact Nat.le_refl _)]; simp [hi, q.len]⟩
  · rcases adopt_get e1 with ⟨_, e1⟩ | ⟨hi, rfl⟩ <;> rcases adopt_get e2 with ⟨_, e2⟩ | ⟨hj, z⟩
    · exact q.inj i j d e1 e2
    · exact absurd (z ▸ e1) (hp.2 i)
    · exact absurd e2 (hp.2 j)
    · rw [hi, hj]
  · rcases adopt_get e with ⟨_, e⟩ | ⟨_, rfl⟩
    · exact q.live i d e
    · exact hp.1
  · rcases hg e with ⟨_, e⟩ | ⟨_, z⟩
    · obtain ⟨b, dd, y, z⟩ := q.exc i c l e
      exact ⟨b, dd, y, z.mono li_adopt⟩
    · rw [← z] at nd; cases nd
theorem adopt_ref (q : WR k w h) {p : Addr} : Rep k (w.adopt p) (.ref h.length) (.ref p) := by
  simp only [Rep]
  have e : (w.adopt p).m[h.length]? = some (some p) := by
    show (w.m ++ [some p])[h.length]? = _
    rw [← q.len, List.getElem?_append_right (Nat.le_refl _)]; simp
  refine ⟨(List.getElem?_eq_some_iff.mp e).1, p, rfl, fun b hb => ?_, fun b dd hb => absurd (q.hid _ _ _ hb) (Nat.lt_irrefl _)⟩
  rw [e] at hb; cases hb; rfl
/-- a list that was made at the kept place is given out -/
theorem post.give {w0 : Wd} {σV : L2.St} {m : Bool} {l : List D} {vs : List V} {Q : VK} {p : Addr} (P : post k W (Rep k) w0 σV (mkL m l h) Q) (x : w0.le w) (hn : w0.H p = none) (q : WR k w h) (hp : w.held p) (e : w.H p = some (.lst vs)) (r : RepL k w l vs) : Q (.ref p) w.H := by
  cases m with
  | false =>
    refine P (w.free p) (.ref p) (le_free x hn) (q.free hp) ?_
    simp only [Rep]
    exact ⟨p, vs, rfl, ⟨e, fun z => z.1 rfl⟩, RepL.mono li_free l vs r⟩
  | true => exact P (w.adopt p) (.ref p) (le_adopt x hn) (q.adopt hp ⟨vs, e, r⟩ rfl) (adopt_ref q)
/-! ### a comprehension's loop, from the turn i on -/
def contS (f : D → Hh → R (List D)) (s : Src) (i m : Nat) (acc : List D) (h : Hh) : R (List D) := match s with
  | .its l => if m = l.length - i ∧ i ≤ l.length then compL f (l.drop i) acc h else .bad
  | .live n => compV f n m i acc h
theorem contS_start (f : D → Hh → R (List D)) (s : Src) (h : Hh) : ∃ m, contS f s 0 m [] h = compS f s h := by
  cases s with
  | its l => exact ⟨l.length, by simp [contS, compS]⟩
  | live n => exact ⟨turns, rfl⟩
theorem comp_step {f : D → Hh → R (List D)} {s : Src} {J : It} {w0 : Wd} {i m : Nat} {acc r : List D} {hr : Hh} (j : JR k w0 s J) (x : w0.le w) (q : WR k w h) (e : contS f s i m acc h = .ok r hr) :
    (J.stop i w.H ∧ acc = r ∧ h = hr) ∨ (J.go i w.H ∧ ∃ d m' y h', m' < m ∧ f d h = .ok y h' ∧ acc.length + y.length ≤ sizeL ∧ contS f s (i + 1) m' (acc ++ y) h' = .ok r hr ∧
      ∀ v H', J.yld i w.H v H' → ∃ w'', w''.H = H' ∧ w.le w'' ∧ WR k w'' h ∧ Rep k w'' d v) := by
  cases s with
  | its l =>
    obtain ⟨j1, j2, j3⟩ := j
    simp only [contS] at e
    split at e
    · rename_i hc
      obtain ⟨rfl, hi⟩ := hc
      by_cases hlt : i < l.length
      · have hd : l.drop i = l[i] :: l.drop (i + 1) := List.drop_eq_getElem_cons hlt
        rw [hd] at e
        unfold compL at e
        refine .inr ⟨j1 i w x.li hlt, l[i], l.length - (i + 1), ?_⟩
        cases hf : f l[i] h with
        | bad => rw [hf] at e; cases e
        | ex c a h1 => rw [hf] at e; cases e
        | ok y h1 =>
          rw [hf] at e
          simp only [R.bind_ok] at e
          split at e
          · rename_i hz
            refine ⟨y, h1, by omega, rfl, hz, ?_, fun v H' hy => j3 i _ w h v H' x.li q (List.getElem?_eq_getElem hlt) hy⟩
            show (if l.length - (i + 1) = l.length - (i + 1) ∧ i + 1 ≤ l.length then compL f (l.drop (i + 1)) (acc ++ y) h1 else .bad) = _
            rw [if_pos ⟨rfl, hlt⟩]; exact e
          · cases e
      · have : l.drop i = [] := List.drop_eq_nil_of_le (Nat.le_of_not_lt hlt)
        rw [this] at e
        unfold compL at e
        cases e
        exact .inl ⟨j2 i w x.li (Nat.le_of_not_lt hlt), rfl, rfl⟩
    · cases e
  | live n =>
    obtain ⟨a, ha, rfl⟩ := j
    cases m with
    | zero => simp only [contS, compV] at e; cases e
    | succ m =>
      simp only [contS, compV] at e
      split at e
      · rename_i l el
        obtain ⟨b, hb, vs, h1, r1⟩ := q.at_ el rfl
        have hn : n < w0.m.length := (List.getElem?_eq_some_iff.mp ha).1
        have := x.old n b hn hb
        rw [ha] at this; cases this
        split at e
        · rename_i ei
          cases e
          refine .inl ⟨⟨vs, SqL.of h1, ?_⟩, rfl, rfl⟩
          rw [← r1.length]; exact List.getElem?_eq_none_iff.mp ei
        · rename_i d ei
          obtain ⟨u, hu, ru⟩ := r1.get ei
          refine .inr ⟨⟨vs, u, SqL.of h1, hu⟩, d, m, ?_⟩
          cases hf : f d h with
          | bad => rw [hf] at e; cases e
          | ex c a h1 => rw [hf] at e; cases e
          | ok y h1' =>
            rw [hf] at e
            simp only [R.bind_ok] at e
            split at e
            · rename_i hz
              refine ⟨y, h1', Nat.lt_succ_self _, rfl, hz, e, fun v H' hy => ?_⟩
              obtain ⟨e1, hy⟩ := hy
              have := hy vs (SqL.of h1)
              rw [hu] at this; cases this
              exact ⟨w, e1.symm, q.refl, q, ru⟩
            · cases e
      · cases e
theorem wipe_get (σ : L2.St) : ∀ (l : List Nat) (i : Nat), (L2.wipe σ l)[i]? = if i ∈ l ∧ i < σ.length then some none else σ[i]?
  | [], i => by simp [L2.wipe]
  | j :: l, i => by
    unfold L2.wipe
    rw [List.getElem?_set, wipe_length]
    by_cases hj : j = i
    · subst hj
      by_cases hl : j < σ.length
      · simp [hl]
      · simp [hl, List.getElem?_eq_none (Nat.le_of_not_lt hl)]
    · rw [if_neg hj, wipe_get σ l i]
      have : i ≠ j := fun z => hj z.symm
      simp [this]
theorem wipe_same {σ σ' : L2.St} {l : List Nat} (h : ∀ i, i ∉ l → σ'[i]? = (L2.wipe σ l)[i]?) (hl : σ'.length = (L2.wipe σ l).length) : L2.wipe σ' l = L2.wipe σ l := by
  rw [wipe_length] at hl
  refine List.ext_getElem? fun i => ?_
  rw [wipe_get σ' l i]
  by_cases hi : i ∈ l
  · by_cases h1 : i < σ.length
    · rw [wipe_get σ l i]; simp [hi, h1, hl]
    · rw [wipe_get σ l i]; simp [hi, h1, hl, List.getElem?_eq_none (Nat.le_of_not_lt h1), List.getElem?_eq_none (show σ'.length ≤ i by omega)]
  · simp only [hi, false_and, if_false]
    exact h i hi
/-- a turn's test, then what it adds -/
def iffB (r : R Bool) (g : Hh → R (List D)) : R (List D) := r.bind fun k h => if k then g h else .ok [] h
abbrev lcTurn (t : Tg) (rc : Sl → Hh → R Bool) (re : Sl → Hh → R D) (σ : Sl) : D → Hh → R (List D) := turn t (clr σ t.slots) fun σ h => iffB (rc σ h) fun h => one (re σ h)
abbrev lcR (m : Bool) (t : Tg) (rit : Sl → Hh → R Src) (rc : Sl → Hh → R Bool) (re : Sl → Hh → R D) : Sl → Hh → R D := fun σ h =>
  (rit σ h).bind fun s h => (compS (lcTurn t rc re σ) s h).calm.bind fun l h => mkL m l h
theorem lc_read {m : Bool} {t : Tg} {rit : Sl → Hh → R Src} {rc : Sl → Hh → R Bool} {re : Sl → Hh → R D} {σV : L2.St} {H : Hp} {Q : VK} (p : tE k W (lcR m t rit rc re) σV H Q) :
    tLc (tI k W rit) (gD k t) (tT k none rc) (tE k none re) t.slots σV H Q := by
  refine (tX.bind (Rm := JR k) p).imp fun J H1 ⟨w1, σ, s, h1, e1, q1, s1, j1, p1⟩ => ?_
  subst e1
  intro D hD
  obtain ⟨m0, hm0⟩ := contS_start (lcTurn t rc re σ) s h1
  rw [← hm0] at p1
  generalize hr0 : contS (lcTurn t rc re σ) s 0 m0 [] h1 = r0 at p1
  cases r0 with
  | bad => exact False.elim p1
  | ex c a h2 => exact False.elim p1
  | ok lr hr =>
    have p1 : post k W (Rep k) w1 σV (mkL m lr hr) Q := p1
    refine ⟨fun i m H => ∃ w h acc vs, w.H = H ∧ w1.le w ∧ WR k w h ∧ w.held D ∧ w.H D = some (.lst vs) ∧ RepL k w acc vs ∧ contS (lcTurn t rc re σ) s i m acc h = .ok lr hr, ⟨m0, w1.res D (.lst []), h1, [], [], rfl, q1.le_res hD, q1.res hD, held_res q1 hD, upd_same, .nil, hr0⟩, ?_⟩
    rintro i n H ⟨w, h, acc, vs, rfl, x, q, hd, hl, r, e⟩
    rcases comp_step j1 x q e with ⟨st, rfl, rfl⟩ | ⟨go, d, n', y, h', hn, hf, hz, e', hy⟩
    · exact .inl ⟨st, p1.give x hD q hd hl r⟩
    · refine .inr ⟨go, fun H' => ∃ w h, w.H = H' ∧ w1.le w ∧ WR k w h ∧ w.held D ∧ (∃ vs, w.H D = some (.lst vs) ∧ RepL k w (acc ++ y) vs) ∧ contS (lcTurn t rc re σ) s (i + 1) n' (acc ++ y) h = .ok lr hr, fun H' ⟨w, h, a1, a2, a3, a4, ⟨vs, a5, a6⟩, a7⟩ => ⟨n', hn, w, h, _, vs, a1, a2, a3, a4, a5, a6, a7⟩, fun v H' yl => ?_⟩
      obtain ⟨w2, rfl, x2, q2, rd⟩ := hy v H' yl
      have x12 := x.trans x2
      obtain ⟨hd2, hl2⟩ := held_le x2 hd hl
      have r2 := RepL.mono x2.li _ _ r
      unfold lcTurn turn at hf
      split at hf
      · cases hf
      · rename_i σ' est
        refine ⟨w2, clr σ t.slots, h, d, σ', rfl, q2, (s1.mono x12.li).wipe _, rd, est, fun σV' sV nV lV => ⟨wipe_same nV lV, ?_⟩⟩
        refine ⟨w2, σ', h, rfl, q2, sV, ?_⟩
        have hf : iffB (rc σ' h) (fun h => one (re σ' h)) = .ok y h' := hf
        unfold iffB at hf
        cases hc : rc σ' h with
        | bad => rw [hc] at hf; cases hf
        | ex c a h2 => rw [hc] at hf; cases hf
        | ok b h2 =>
          rw [hc] at hf
          simp only [R.bind_ok] at hf
          intro w3 b' x3 q3 eb
          subst eb
          obtain ⟨hd3, hl3⟩ := held_le x3 hd2 hl2
          have r3 := RepL.mono x3.li _ _ r2
          cases b with
          | false =>
            simp only [Bool.false_eq_true, if_false] at hf ⊢
            cases hf
            exact ⟨w3, _, rfl, x12.trans x3, q3, hd3, ⟨vs, hl3, by rw [List.append_nil]; exact r3⟩, e'⟩
          | true =>
            simp only [if_true] at hf ⊢
            refine ⟨w3, σ', h2, rfl, q3, sV.mono x3.li, ?_⟩
            unfold one at hf
            cases he : re σ' h2 with
            | bad => rw [he] at hf; cases hf
            | ex c a h2 => rw [he] at hf; cases hf
            | ok z h3 =>
              rw [he] at hf
              simp only [R.bind_ok] at hf
              cases hf
              intro w4 u x4 q4 ru
              obtain ⟨hd4, hl4⟩ := held_le x4 hd3 hl3
              have r4 := RepL.mono x4.li _ _ r3
              refine ⟨vs, hl4, ?_, w4.put D (.lst (vs ++ [u])), _, rfl, le_put_out ((x12.trans x3).trans x4) hD, q4.put_held hd4, held_put hd4, ⟨vs ++ [u], upd_same, ?_⟩, e'⟩
              · rw [← r4.length, ← sizeL_eq]
                simp only [List.length_cons, List.length_nil] at hz
                omega
              · exact (RepL.mono (li_held hd4) _ _ r4).append (.cons (Rep.mono (li_held hd4) _ _ ru) .nil)
end
end Dy
end

section
set_option linter.all false
set_option maxRecDepth 100000
set_option maxHeartbeats 1000000
set_option Elab.async false
namespace Dy
open PySem PySem.Spec PyProof.Rows L2
section
variable (k : Kx) (W : Option WX)
/-- what is to be shown behind a statement -/
def postS (w : Wd) : Fl → Ends → Prop
  | .nx σ h, D => ∀ w' σV, w.le w' → WR k w' h → Sr k w' σ σV → D.nx σV w'.H
  | .bk σ h, D => ∀ w' σV, w.le w' → WR k w' h → Sr k w' σ σV → D.bk σV w'.H
  | .ct σ h, D => ∀ w' σV, w.le w' → WR k w' h → Sr k w' σ σV → D.ct σV w'.H
  | .rt d h, D => ∀ w' v, w.le w' → WR k w' h → Rep k w' d v → D.rt v w'.H
  | .ex c l σ h, D => ∃ W0, W = some W0 ∧ ∀ w' u dd σV, w.le w' → WR k w' h → ExR k w' c l u dd → Sr k w' σ σV → W0 u dd σV w'.H
  | .bad, _ => False
def tS (f : Sl → Hh → Fl) : TS := fun D σV H => ∃ w σ h, w.H = H ∧ WR k w h ∧ Sr k w σ σV ∧ postS k W w (f σ h) D
end
section
variable {k : Kx} {W : Option WX} {X : Cx} {w w' : Wd} {h : Hh} {D : Ends} {σ : Sl} {σV : L2.St}
theorem postS.mono (x : w.le w') {f : Fl} (p : postS k W w f D) : postS k W w' f D := by
  cases f with
  | nx σ h => exact fun w2 s y => p w2 s (x.trans y)
  | bk σ h => exact fun w2 s y => p w2 s (x.trans y)
  | ct σ h => exact fun w2 s y => p w2 s (x.trans y)
  | rt d h => exact fun w2 s y => p w2 s (x.trans y)
  | ex c l σ h => obtain ⟨W0, e, p⟩ := p; exact ⟨W0, e, fun w2 u dd s y => p w2 u dd s (x.trans y)⟩
  | bad => exact p
/-- an expression, then the rest -/
theorem postS.go {α β : Type} {Rl : Wd → α → β → Prop} {r : R α} {g : α → Hh → Fl} (s : Sr k w σ σV) (p : postS k W w (r.go σ g) D) :
    post k W Rl w σV r (fun b H => ∃ w1 a h1, w1.H = H ∧ w.le w1 ∧ WR k w1 h1 ∧ Rl w1 a b ∧ postS k W w1 (g a h1) D) := by
  cases r with
  | ok a h1 => exact fun w2 b y q r => ⟨w2, a, h1, rfl, y, q, r, p.mono y⟩
  | ex c l h1 =>
    obtain ⟨W0, e, p⟩ := p
    exact ⟨W0, e, fun w2 u dd y q r => p w2 u dd σV y q r (s.mono y.li)⟩
  | bad => exact p
theorem tS.go {α β : Type} {Rl : Wd → α → β → Prop} {r : Sl → Hh → R α} {g : Sl → α → Hh → Fl} {H : Hp} (p : tS k W (fun σ h => (r σ h).go σ (g σ)) D σV H) :
    tX k W Rl r σV H (fun b H1 => ∃ w1 σ a h1, w1.H = H1 ∧ WR k w1 h1 ∧ Sr k w1 σ σV ∧ Rl w1 a b ∧ postS k W w1 (g σ a h1) D) := by
  obtain ⟨w, σ, h, rfl, q, s, p⟩ := p
  exact ⟨w, σ, h, rfl, q, s, (postS.go (Rl := Rl) s p).imp fun b H ⟨w1, a, h1, e, x, q1, r1, p1⟩ => ⟨w1, σ, a, h1, e, q1, s.mono x.li, r1, p1⟩⟩
/-- a statement, then the rest -/
theorem postS.then {f : Fl} {g : Sl → Hh → Fl} (p : postS k W w (f.then g) D) : postS k W w f { D with nx := fun σV H => tS k W g D σV H } := by
  cases f with
  | nx σ h => exact fun w2 s y q r => ⟨w2, σ, h, rfl, q, r, p.mono y⟩
  | bk σ h => exact p
  | ct σ h => exact p
  | rt d h => exact p
  | ex c l σ h => exact p
  | bad => exact p
theorem tS.seq {f g : Sl → Hh → Fl} {H : Hp} (p : tS k W (fun σ h => (f σ h).then g) D σV H) : tSeq (tS k W f) (tS k W g) D σV H := by
  obtain ⟨w, σ, h, rfl, q, s, p⟩ := p
  exact ⟨w, σ, h, rfl, q, s, p.then⟩
theorem tS.imp0 {f g : Sl → Hh → Fl} {H : Hp} (p : tS k W f D σV H) (e : ∀ σ h, f σ h = g σ h) : tS k W g D σV H := by
  obtain ⟨w, σ, h, rfl, q, s, p⟩ := p
  exact ⟨w, σ, h, rfl, q, s, by rw [← e]; exact p⟩
/-! ### single statements -/
theorem psd_pass {pos : Pos} : PS X (.Pass pos) (tS k W fun σ h => .nx σ h) := PS.imp ps_pass fun D σV H ⟨w, σ, h, e, q, s, p⟩ => e ▸ p w σV q.refl q s
theorem psd_brk {pos : Pos} : PS X (.Break pos) (tS k W fun σ h => .bk σ h) := PS.imp ps_break fun D σV H ⟨w, σ, h, e, q, s, p⟩ => e ▸ p w σV q.refl q s
theorem psd_cnt {pos : Pos} : PS X (.Continue pos) (tS k W fun σ h => .ct σ h) := PS.imp ps_continue fun D σV H ⟨w, σ, h, e, q, s, p⟩ => e ▸ p w σV q.refl q s
theorem psd_retN {pos : Pos} : PS X (.Return none pos) (tS k W fun _ h => .rt .non h) := PS.imp ps_retN fun D σV H ⟨w, σ, h, e, q, s, p⟩ => e ▸ p w .non q.refl q Rep.non
theorem psd_nil : PSs X [] (tS k W fun σ h => .nx σ h) := PSs.imp pss_nil fun D σV H ⟨w, σ, h, e, q, s, p⟩ => e ▸ p w σV q.refl q s
theorem psd_cons {st : Stmt} {rest : List Stmt} {f g : Sl → Hh → Fl} (h1 : PS X st (tS k W f)) (h2 : PSs X rest (tS k W g)) : PSs X (st :: rest) (tS k W fun σ h => (f σ h).then g) :=
  PSs.imp (pss_cons h1 h2) fun D σV H p => p.seq
theorem psd_never {st : Stmt} {f : Sl → Hh → Fl} (e : ∀ σ h, f σ h = .bad ∨ ∃ c l σ' h', f σ h = .ex c l σ' h') : PS X st (tS k none f) := by
  refine PS.imp ps_never fun D σV H ⟨w, σ, h, _, _, _, p⟩ => ?_
  rcases e σ h with e | ⟨c, l, σ', h', e⟩
  · rw [e] at p; exact p
  · rw [e] at p; obtain ⟨_, z, _⟩ := p; cases z
theorem psd_ret {pos : Pos} {e : Expr} {r : Sl → Hh → R Dy.D} (he : PE X e (tE k W r)) : PS X (.Return (some e) pos) (tS k W fun σ h => (r σ h).go σ fun x h => .rt x h) :=
  PS.imp (ps_ret he) fun D σV H p => (tS.go (Rl := Rep k) p).imp fun b H1 ⟨w1, σ, a, h1, e1, q1, s1, r1, p1⟩ => e1 ▸ p1 w1 b q1.refl q1 r1
theorem psd_expr {pos : Pos} {e : Expr} {r : Sl → Hh → R Dy.D} (he : PE X e (tE k W r)) (hs : swapsWith e none pos.line X.env = pure false) : PS X (.Expr e pos) (tS k W fun σ h => (r σ h).go σ fun _ h => .nx σ h) :=
  PS.imp (ps_expr he hs) fun D σV H p => (tS.go (Rl := Rep k) p).imp fun b H1 ⟨w1, σ, a, h1, e1, q1, s1, r1, p1⟩ => e1 ▸ p1 w1 σV q1.refl q1 s1
/-- what an assignment does -/
abbrev asgR (t : Tg) (r : Sl → Hh → R Dy.D) : Sl → Hh → Fl := fun σ h => (r σ h).go σ fun x h => match setT t x σ h with
  | none => .bad
  | some σ => .nx σ h
theorem asg_read {t : Tg} {r : Sl → Hh → R Dy.D} {H : Hp} (p : tS k W (asgR t r) D σV H) : tAsg (tE k W r) (gD k t) D σV H :=
  (tS.go (Rl := Rep k) p).imp fun b H1 ⟨w1, σ, a, h1, e1, q1, s1, r1, p1⟩ => by
    subst e1
    split at p1
    · exact False.elim p1
    · rename_i σ' es
      exact ⟨w1, σ, h1, a, σ', rfl, q1, s1, r1, es, fun σV' sV _ _ => p1 w1 σV' q1.refl q1 sV⟩
theorem psd_asg {tg e : Expr} {t : Tg} {r : Sl → Hh → R Dy.D} {pos : Pos} (he : PE X e (tE k W r)) (hg : PG X tg (gD k t)) (hs : swapsWithSole [tg] e pos.line X.env = pure false) (hw : swappedStores [tg] e X.env = pure none)
    (h1 : (assignEach [tg] X.env).map (·.2) = [assign tg X.env]) : PS X (.Assign [tg] e pos) (tS k W (asgR t r)) := PS.imp (ps_asg he hg hs hw h1) fun D σV H p => asg_read p
theorem psd_if {pos : Pos} {c : Expr} {a b : List Stmt} {rc : Sl → Hh → R Bool} {f g : Sl → Hh → Fl} (hc : PT X c (tT k W rc)) (ha : PSs X a (tS k W f)) (hb : PSs X b (tS k W g)) :
    PS X (.If c a b pos) (tS k W fun σ h => (rc σ h).go σ fun z h => if z then f σ h else g σ h) :=
  PS.imp (ps_if hc ha hb) fun D σV H p => (tS.go (Rl := fun _ a b => a = b) p).imp fun b H1 ⟨w1, σ, a, h1, e1, q1, s1, r1, p1⟩ => by
    subst r1
    cases a with
    | true => exact ⟨w1, σ, h1, e1, q1, s1, p1⟩
    | false => exact ⟨w1, σ, h1, e1, q1, s1, p1⟩
/-! ### loops -/
theorem postS.turn {f : Fl} {g : Sl → Hh → Fl} {N : L2.St → Hp → Prop} (p : postS k W w (f.turn g) D) (hN : ∀ w' σ h σV, w.le w' → WR k w' h → Sr k w' σ σV → postS k W w' (g σ h) D → N σV w'.H) :
    postS k W w f { D with nx := N, ct := N, bk := D.nx } := by
  cases f with
  | nx σ h => exact fun w2 s y q r => hN w2 σ h s y q r (p.mono y)
  | ct σ h => exact fun w2 s y q r => hN w2 σ h s y q r (p.mono y)
  | bk σ h => exact p
  | rt d h => exact p
  | ex c l σ h => exact p
  | bad => exact p
def contF (t : Tg) (b : Sl → Hh → Fl) (s : Src) (i m : Nat) (σ : Sl) (h : Hh) : Fl := match s with
  | .its l => if m = l.length - i ∧ i ≤ l.length then forL t b (l.drop i) σ h else .bad
  | .live n => forV t b n m i σ h
theorem contF_start (t : Tg) (b : Sl → Hh → Fl) (s : Src) (σ : Sl) (h : Hh) : ∃ m, contF t b s 0 m σ h = forS t b s σ h := by
  cases s with
  | its l => exact ⟨l.length, by simp [contF, forS]⟩
  | live n => exact ⟨turns, rfl⟩
theorem contF_its {t : Tg} {b : Sl → Hh → Fl} {l : List Dy.D} {i m : Nat} (e : contF t b (.its l) i m σ h ≠ .bad) : m = l.length - i ∧ i ≤ l.length := by
  apply Classical.byContradiction
  intro hc
  apply e
  show (if m = l.length - i ∧ i ≤ l.length then forL t b (l.drop i) σ h else .bad) = .bad
  rw [if_neg hc]
theorem contF_end {t : Tg} {b : Sl → Hh → Fl} {l : List Dy.D} {i : Nat} (hi : i = l.length) : contF t b (.its l) i (l.length - i) σ h = .nx σ h := by
  show (if l.length - i = l.length - i ∧ i ≤ l.length then forL t b (l.drop i) σ h else .bad) = _
  rw [if_pos ⟨rfl, Nat.le_of_eq hi⟩, List.drop_eq_nil_of_le (Nat.le_of_eq hi.symm)]
  rfl
theorem contF_succ {t : Tg} {b : Sl → Hh → Fl} {l : List Dy.D} {i : Nat} (hlt : i < l.length) : contF t b (.its l) i (l.length - i) σ h = match setT t l[i] σ h with
    | none => .bad
    | some σ => (b σ h).turn fun σ h => contF t b (.its l) (i + 1) (l.length - (i + 1)) σ h := by
  have e1 : ∀ σ h, contF t b (.its l) (i + 1) (l.length - (i + 1)) σ h = forL t b (l.drop (i + 1)) σ h := fun σ h => by
    show (if l.length - (i + 1) = l.length - (i + 1) ∧ i + 1 ≤ l.length then forL t b (l.drop (i + 1)) σ h else .bad) = _
    rw [if_pos ⟨rfl, hlt⟩]
  simp only [e1]
  show (if l.length - i = l.length - i ∧ i ≤ l.length then forL t b (l.drop i) σ h else .bad) = _
  rw [if_pos ⟨rfl, Nat.le_of_lt hlt⟩, List.drop_eq_getElem_cons hlt]
  rfl
theorem contF_live {t : Tg} {b : Sl → Hh → Fl} {n i m : Nat} {l : List Dy.D} (el : h[n]? = some (.lst l)) : contF t b (.live n) i (m + 1) σ h = match l[i]? with
    | none => .nx σ h
    | some d => match setT t d σ h with
      | none => .bad
      | some σ => (b σ h).turn fun σ h => contF t b (.live n) (i + 1) m σ h := by
  show forV t b n (m + 1) i σ h = _
  conv => lhs; unfold forV
  rw [el]
  rfl
theorem for_step {t : Tg} {b : Sl → Hh → Fl} {s : Src} {J : It} {w0 : Wd} {i m : Nat} (j : JR k w0 s J) (x : w0.le w) (q : WR k w h) (e : contF t b s i m σ h ≠ .bad) :
    (J.stop i w.H ∧ contF t b s i m σ h = .nx σ h) ∨ (J.go i w.H ∧ ∃ d m' σ', m' < m ∧ setT t d σ h = some σ' ∧ contF t b s i m σ h = (b σ' h).turn (fun σ h => contF t b s (i + 1) m' σ h) ∧
      ∀ v H', J.yld i w.H v H' → ∃ w'', w''.H = H' ∧ w.le w'' ∧ WR k w'' h ∧ Rep k w'' d v) := by
  cases s with
  | its l =>
    obtain ⟨j1, j2, j3⟩ := j
    obtain ⟨rfl, hi⟩ := contF_its e
    by_cases hlt : i < l.length
    · rw [contF_succ hlt] at e
      rw [contF_succ hlt]
      cases es : setT t l[i] σ h with
      | none => rw [es] at e; exact absurd rfl e
      | some σ' =>
        exact .inr ⟨j1 i w x.li hlt, l[i], l.length - (i + 1), σ', by omega, es, rfl, fun v H' hy => j3 i _ w h v H' x.li q (List.getElem?_eq_getElem hlt) hy⟩
    · exact .inl ⟨j2 i w x.li (Nat.le_of_not_lt hlt), contF_end (by omega)⟩
  | live n =>
    obtain ⟨a, ha, rfl⟩ := j
    cases m with
    | zero => exact absurd rfl e
    | succ m =>
      have lst : ∃ l, h[n]? = some (.lst l) := by
        apply Classical.byContradiction
        intro no
        apply e
        show forV t b n (m + 1) i σ h = .bad
        unfold forV
        split
        · rename_i l el; exact absurd ⟨l, el⟩ no
        · rfl
      obtain ⟨l, el⟩ := lst
      rw [contF_live el] at e
      rw [contF_live el]
      obtain ⟨b', hb, vs, h1, r1⟩ := q.at_ el rfl
      have hn : n < w0.m.length := (List.getElem?_eq_some_iff.mp ha).1
      have := x.old n b' hn hb
      rw [ha] at this; cases this
      cases ei : l[i]? with
      | none =>
        refine .inl ⟨⟨vs, SqL.of h1, ?_⟩, rfl⟩
        rw [← r1.length]; exact List.getElem?_eq_none_iff.mp ei
      | some d =>
        obtain ⟨u, hu, ru⟩ := r1.get ei
        rw [ei] at e
        cases es : setT t d σ h with
        | none => simp only [es] at e; exact absurd rfl e
        | some σ' =>
          refine .inr ⟨⟨vs, u, SqL.of h1, hu⟩, d, m, σ', Nat.lt_succ_self _, es, by simp only [es], fun v H' hy => ?_⟩
          obtain ⟨e1, hy⟩ := hy
          have := hy vs (SqL.of h1)
          rw [hu] at this; cases this
          exact ⟨w, e1.symm, q.refl, q, ru⟩
abbrev forR (t : Tg) (rit : Sl → Hh → R Src) (b : Sl → Hh → Fl) : Sl → Hh → Fl := fun σ h => (rit σ h).go σ fun s h => forS t b s σ h
theorem for_read {t : Tg} {rit : Sl → Hh → R Src} {b : Sl → Hh → Fl} {H : Hp} (p : tS k W (forR t rit b) D σV H) : tFor (tI k W rit) (gD k t) (tS k W b) D σV H := by
  refine (tS.go (Rl := JR k) p).imp fun J H1 ⟨w1, σ, s, h1, e1, q1, s1, j1, p1⟩ => ?_
  subst e1
  obtain ⟨m0, hm0⟩ := contF_start t b s σ h1
  rw [← hm0] at p1
  refine ⟨fun i m σV H => ∃ w σ h, w.H = H ∧ w1.le w ∧ WR k w h ∧ Sr k w σ σV ∧ postS k W w (contF t b s i m σ h) D, ⟨m0, w1, σ, h1, rfl, q1.refl, q1, s1, p1⟩, ?_⟩
  rintro i n σV H ⟨w, σ, h, rfl, x, q, sr, p⟩
  have nb : contF t b s i n σ h ≠ .bad := fun z => by rw [z] at p; exact p
  rcases for_step j1 x q nb with ⟨st, e⟩ | ⟨go, d, n', σ', hn, es, e, hy⟩
  · rw [e] at p
    exact .inl ⟨st, p w σV q.refl q sr⟩
  · rw [e] at p
    refine .inr ⟨go, fun σV H => ∃ w σ h, w.H = H ∧ w1.le w ∧ WR k w h ∧ Sr k w σ σV ∧ postS k W w (contF t b s (i + 1) n' σ h) D, fun σV' H' ⟨w, σ, h, a⟩ => ⟨n', hn, w, σ, h, a⟩, fun v H' yl => ?_⟩
    obtain ⟨w2, rfl, x2, q2, rd⟩ := hy v H' yl
    refine ⟨w2, σ, h, d, σ', rfl, q2, sr.mono x2.li, rd, es, fun σV' sV _ _ => ⟨w2, σ', h, rfl, q2, sV, ?_⟩⟩
    exact (p.mono x2).turn fun w3 σ3 h3 σV3 x3 q3 s3 p3 => ⟨w3, σ3, h3, rfl, (x.trans x2).trans x3, q3, s3, p3⟩
theorem psd_for {t : Tg} {rit : Sl → Hh → R Src} {b : Sl → Hh → Fl} {tg iter : Expr} {body : List Stmt} {pos : Pos} (hp : PassesOwn (model X.prog X.w) X.A X.env X.xe) (hc : X.calm = true) (hi : PI X tg iter (tI k W rit)) (hg : PG X tg (gD k t)) (hb : PSs X body (tS k W b))
    (hs : ∀ x, foldedSetIterable iter X.env x = pure x) : PS X (.For tg iter body [] pos) (tS k W (forR t rit b)) := PS.imp (ps_for hp hc hi hg hb hs) fun D σV H p => for_read p
abbrev whileR (rc : Sl → Hh → R Bool) (b : Sl → Hh → Fl) : Sl → Hh → Fl := fun σ h => whileN rc b turns σ h
theorem while_read {rc : Sl → Hh → R Bool} {b : Sl → Hh → Fl} {H : Hp} (p : tS k W (whileR rc b) D σV H) : tWhile (tT k W rc) (tS k W b) D σV H := by
  refine ⟨fun m σV H => tS k W (fun σ h => whileN rc b m σ h) D σV H, ⟨turns, p⟩, ?_⟩
  rintro m σV H ⟨w, σ, h, rfl, q, sr, p⟩
  cases m with
  | zero => exact False.elim p
  | succ m =>
    simp only [whileN] at p
    have p' : tS k W (fun σ h => (rc σ h).go σ fun x h => if x then (b σ h).turn fun σ h => whileN rc b m σ h else .nx σ h) D σV w.H := ⟨w, σ, h, rfl, q, sr, p⟩
    refine (tS.go (Rl := fun _ a b => a = b) p').imp fun c H1 ⟨w1, σ, a, h1, e1, q1, s1, r1, p1⟩ => ?_
    subst r1; subst e1
    cases a with
    | true =>
      simp only [if_true] at p1 ⊢
      refine ⟨fun σV H => tS k W (fun σ h => whileN rc b m σ h) D σV H, fun σV' H' z => ⟨m, Nat.lt_succ_self _, z⟩, w1, σ, h1, rfl, q1, s1, ?_⟩
      exact p1.turn fun w3 σ3 h3 σV3 x3 q3 s3 p3 => ⟨w3, σ3, h3, rfl, q3, s3, p3⟩
    | false => exact p1 w1 σV q1.refl q1 s1
theorem psd_while {rc : Sl → Hh → R Bool} {b : Sl → Hh → Fl} {c : Expr} {body : List Stmt} {pos : Pos} (hp : PassesOwn (model X.prog X.w) X.A X.env X.xe) (hc : PT X c (tT k W rc)) (hb : PSs X body (tS k W b)) : PS X (.While c body [] pos) (tS k W (whileR rc b)) :=
  PS.imp (ps_while hp hc hb) fun D σV H p => while_read p
/-! ### a thing stands still from now on -/
theorem kill_rep {n : Nat} {l : List Dy.D} {x : V} (q : WR k w h) (e : h[n]? = some (.lst l)) (r : Rep k w (.ref n) x) : ∃ a, w.le (w.kill n a) ∧ WR k (w.kill n a) (h.set n .dead) ∧ Rep k (w.kill n a) (.lst l) x := by
  obtain ⟨a, vs, rfl, ha, h1, r1⟩ := q.lst e r
  have x := q.le_kill ha
  refine ⟨a, x, q.kill ha, ?_⟩
  simp only [Rep]
  exact ⟨a, vs, rfl, ⟨h1, fun z => z.1 rfl⟩, RepL.mono x.li _ _ r1⟩
theorem kill_repD {n : Nat} {l : List (Dy.D × Dy.D)} {x : V} (q : WR k w h) (e : h[n]? = some (.dct l)) (r : Rep k w (.ref n) x) : ∃ a, w.le (w.kill n a) ∧ WR k (w.kill n a) (h.set n .dead) ∧ Rep k (w.kill n a) (.dct l) x := by
  obtain ⟨a, ha, o, h1, r1⟩ := q.at_ e rfl
  simp only [Rep] at r
  obtain ⟨_, b, rfl, z, _⟩ := r
  have := z a ha; subst this
  have x := q.le_kill ha
  refine ⟨a, x, q.kill ha, ?_⟩
  simp only [Rep]
  exact ⟨a, o, rfl, ⟨h1, fun z => z.1 rfl⟩, r1.mono x.li⟩
def frzR (r : R Dy.D) : R Dy.D := r.bind fun x h => match x with
  | .ref n => match h[n]? with
    | some (.lst l) => .ok (.lst l) (h.set n .dead)
    | some (.dct l) => .ok (.dct l) (h.set n .dead)
    | _ => .bad
  | x => .ok x h
theorem ped_frz {e : Expr} {r : Sl → Hh → R Dy.D} (he : PE X e (tE k W r)) : PE X e (tE k W fun σ h => frzR (r σ h)) :=
  PE.imp he fun σV H Q p => by
    refine (tX.bind (Rm := Rep k) p).imp fun x H1 ⟨w1, σ, a, h1, e1, q1, s1, r1, p1⟩ => ?_
    subst e1
    cases a <;> try exact p1.here q1 r1
    rename_i n
    simp only at p1
    split at p1
    · rename_i l e'
      obtain ⟨a, x1, q2, r2⟩ := kill_rep q1 e' r1
      exact p1 (w1.kill n a) x x1 q2 r2
    · rename_i l e'
      obtain ⟨a, x1, q2, r2⟩ := kill_repD q1 e' r1
      exact p1 (w1.kill n a) x x1 q2 r2
    · exact False.elim p1
def frzS (i : Nat) (σ : Sl) (h : Hh) : Fl := match σ[i]? with
  | some (some (.ref n)) => match h[n]? with
    | some (.lst l) => .nx (σ.set i (some (.lst l))) (h.set n .dead)
    | some (.dct l) => .nx (σ.set i (some (.dct l))) (h.set n .dead)
    | _ => .nx σ h
  | _ => .nx σ h
theorem psd_frz {i : Nat} {sts : List Stmt} {g : Sl → Hh → Fl} (hs : PSs X sts (tS k W g)) : PSs X sts (tS k W fun σ h => (frzS i σ h).then g) :=
  PSs.imp hs fun D σV H ⟨w, σ, h, e, q, s, p⟩ => by
    subst e
    have p : postS k W w ((frzS i σ h).then g) D := p
    unfold frzS at p
    split at p
    · rename_i n e1
      split at p
      · rename_i l e2
        obtain ⟨x, hx, rx⟩ := s.2 i _ e1
        obtain ⟨a, x1, q2, r2⟩ := kill_rep q e2 rx
        refine ⟨w.kill n a, σ.set i (some (.lst l)), h.set n .dead, rfl, q2, ?_, p.mono x1⟩
        have s2 := (s.mono x1.li).set i r2
        have hlt := (List.getElem?_eq_some_iff.mp hx).1
        have : σV.set i (some x) = σV := by
          refine List.ext_getElem? fun j => ?_
          rw [List.getElem?_set]
          split
          · rename_i hj; subst hj; first | exact hx.symm | (rw [if_pos hlt]; exact hx.symm)
          · rfl
        rw [this] at s2
        exact s2
      · rename_i l e2
        obtain ⟨x, hx, rx⟩ := s.2 i _ e1
        obtain ⟨a, x1, q2, r2⟩ := kill_repD q e2 rx
        refine ⟨w.kill n a, σ.set i (some (.dct l)), h.set n .dead, rfl, q2, ?_, p.mono x1⟩
        have s2 := (s.mono x1.li).set i r2
        have hlt := (List.getElem?_eq_some_iff.mp hx).1
        have : σV.set i (some x) = σV := by
          refine List.ext_getElem? fun j => ?_
          rw [List.getElem?_set]
          split
          · rename_i hj; subst hj; first | exact hx.symm | (rw [if_pos hlt]; exact hx.symm)
          · rfl
        rw [this] at s2
        exact s2
      · exact ⟨w, σ, h, rfl, q, s, p⟩
    · exact ⟨w, σ, h, rfl, q, s, p⟩
end
end Dy
end

section
set_option linter.all false
set_option maxRecDepth 100000
set_option maxHeartbeats 1000000
set_option Elab.async false
namespace Dy
open PySem PySem.Spec PyProof.Rows L2
section
variable {ca : Str → Addr} {ea : Ec} {W : Option WX} {X : Cx} {w : Wd} {h : Hh} {pos : Pos}
/-! ### tuples as targets -/
theorem pg_seq {es : List Expr} {kk : Nat} {t : TGs} {n : Nat} (hc : X.calm = true) (h : PGs X es t) (hn : (assignEach es X.env).length = n) (hst : (assignEach es X.env).findIdx? (·.1) = none) :
    PG X (.Tuple es kk pos) (fun v σ H Q => ∃ a xs, v = .ref a ∧ (SqL X.K H a xs ∨ SqT X.K H a xs) ∧ xs.length = n ∧ t xs σ H Q) := by
  refine ⟨fun pins s σ H v u Q I r hw => ?_⟩
  obtain ⟨a, xs, e1, hq | hq, hl, hw⟩ := hw
  · exact (pg_lst hc h hn hst).run pins s σ H v u Q I r ⟨a, xs, e1, hq, hl, hw⟩
  · exact (pg_tup hc h hn hst).run pins s σ H v u Q I r ⟨a, xs, e1, hq, hl, hw⟩
def Tg.len : Tg → Nat
  | .cons _ r => r.len + 1
  | _ => 0
def Tg.row : Tg → Bool
  | .nil => true
  | .cons a r => !a.isStar && r.row
  | _ => false
theorem setT_len : ∀ {t : Tg} {l : List D} {σ σ' : Sl}, t.row = true → setT t (.tup l) σ h = some σ' → l.length = t.len
  | .nil, l, σ, σ', _, e => by
    cases l with
    | nil => rfl
    | cons d l => simp [setT] at e
  | .cons a r, l, σ, σ', hr, e => by
    simp only [Tg.row, Bool.and_eq_true, Bool.not_eq_true'] at hr
    cases l with
    | nil => exact (setT_cons0 hr.1 e).elim
    | cons d l =>
      obtain ⟨σ1, _, e2⟩ := setT_cons hr.1 e
      simp [Tg.len, setT_len hr.2 e2]
  | .nm _, _, _, _, hr, _ => by cases hr
  | .tp _, _, _, _, hr, _ => by cases hr
  | .star _, _, _, _, hr, _ => by cases hr
theorem WR.seqP (q : WR (kX X ca ea) w h) {a : D} {l : List D} {x : V} (e : Dy.seqP h a = some l) (r : Rep (kX X ca ea) w a x) : ∃ p vs, x = .ref p ∧ (SqL X.K w.H p vs ∨ SqT X.K w.H p vs) ∧ RepL (kX X ca ea) w l vs := by
  unfold Dy.seqP at e
  split at e
  · cases e
    simp only [Rep] at r
    obtain ⟨p, y, z, rfl, st, ra, rb⟩ := r
    exact ⟨p, _, rfl, .inr (.inl st.1), .cons ra (.one rb)⟩
  · exact q.seq e r
theorem pgd_tp {es : List Expr} {kk : Nat} {t : Tg} (hc : X.calm = true) (hg : PGs X es (gsD (kX X ca ea) t)) (hr : t.row = true) (hn : (assignEach es X.env).length = t.len) (hst : (assignEach es X.env).findIdx? (·.1) = none) :
    PG X (.Tuple es kk pos) (gD (kX X ca ea) (.tp t)) :=
  PG.imp (pg_seq hc hg hn hst) fun x σV H Q ⟨w, σ, h, d, σ', e, q, s, r, st, f⟩ => by
    subst e
    simp only [setT] at st
    split at st
    · rename_i l es
      obtain ⟨a, vs, rfl, h1, r1⟩ := q.seqP es r
      exact ⟨a, vs, rfl, h1, by rw [← r1.length]; exact setT_len hr st, w, σ, h, l, σ', rfl, q, s, r1, st, f⟩
    · cases st
/-! ### tests -/
/-- an expression by truth -/
abbrev rT (r : Sl → Hh → R D) : Sl → Hh → R Bool := fun σ h => (r σ h).bind fun x h => R.opt (truthy h x) h
theorem truV_post {σV : L2.St} {a : D} {x : V} {α β : Type} {Rl : Wd → α → β → Prop} {g : Bool → Hh → R α} {Q : β → Hp → Prop} (q : WR (kX X ca ea) w h) (r : Rep (kX X ca ea) w a x) (p : post (kX X ca ea) W Rl w σV ((R.opt (truthy h a) h).bind g) Q) :
    ∃ b, TruV X.K x w.H b ∧ post (kX X ca ea) W Rl w σV (g b h) Q := by
  cases e : truthy h a with
  | none => rw [e] at p; exact False.elim p
  | some b => rw [e] at p; exact ⟨b, tru_D q e r, p⟩
theorem bind_ok' {α : Type} (r : R α) : (r.bind fun a h => .ok a h) = r := by cases r <;> rfl
theorem ptd_val {e : Expr} {r : Sl → Hh → R D} (he : PE X e (tE (kX X ca ea) W r)) (hv : ∀ whole, PySem.isTrue e X.env whole = (do let v ← whole; standAt e.pos; holding [v] (PySem.truthy v))) : PT X e (tT (kX X ca ea) W (rT r)) :=
  PT.imp (pt_truth he hv) fun σV H Q p => by
    refine (tX.bind (Rm := Rep (kX X ca ea)) p).imp fun x H1 ⟨w1, σ, a, h1, e1, q1, s1, r1, p1⟩ => ?_
    subst e1
    rw [← bind_ok' (R.opt (truthy h1 a) h1)] at p1
    obtain ⟨b, tb, p2⟩ := truV_post q1 r1 p1
    exact ⟨b, tb, p2.here q1 rfl⟩
theorem pw_of_pt {op : BoolOp} {vs : List Expr} {t : TT} (h : PT X (.BoolOp op vs pos) t) : PW X (.BoolOp op vs pos) t :=
  ⟨fun wh pins s σ H Q I q => by
    have := h.run pins s σ H Q I q
    unfold PySem.isTrue at this ⊢
    exact this⟩
abbrev andR (ra rb : Sl → Hh → R D) : Sl → Hh → R D := fun σ h => (ra σ h).bind fun x h => (R.opt (truthy h x) h).bind fun k h => if k then rb σ h else .ok x h
abbrev orR (ra rb : Sl → Hh → R D) : Sl → Hh → R D := fun σ h => (ra σ h).bind fun x h => (R.opt (truthy h x) h).bind fun k h => if k then .ok x h else rb σ h
theorem rT_and (ra rb : Sl → Hh → R D) (σ : Sl) (h : Hh) : rT (andR ra rb) σ h = (rT ra σ h).bind fun k h => if k then rT rb σ h else .ok false h := by
  unfold rT andR
  cases ra σ h with
  | bad => rfl
  | ex c l h1 => rfl
  | ok x h1 =>
    simp only [R.bind_ok]
    cases e : truthy h1 x with
    | none => rfl
    | some b => cases b <;> simp [e]
theorem rT_or (ra rb : Sl → Hh → R D) (σ : Sl) (h : Hh) : rT (orR ra rb) σ h = (rT ra σ h).bind fun k h => if k then .ok true h else rT rb σ h := by
  unfold rT orR
  cases ra σ h with
  | bad => rfl
  | ex c l h1 => rfl
  | ok x h1 =>
    simp only [R.bind_ok]
    cases e : truthy h1 x with
    | none => rfl
    | some b => cases b <;> simp [e]
theorem ptd_and {a b : Expr} {rest : List Expr} {ra rb : Sl → Hh → R D} (ha : PT X a (tT (kX X ca ea) W (rT ra))) (hb : PW X (.BoolOp .And (b :: rest) pos) (tT (kX X ca ea) W (rT rb))) : PT X (.BoolOp .And (a :: b :: rest) pos) (tT (kX X ca ea) W (rT (andR ra rb))) :=
  PT.imp (pw_and ha hb).pt fun σV H Q p => by
    refine (tX.bind (Rm := fun _ a b => a = b) (p.eq (rT_and ra rb))).imp fun b H1 ⟨w1, σ, a, h1, e1, q1, s1, r1, p1⟩ => ?_
    subst r1
    cases a with
    | true => exact ⟨w1, σ, h1, e1, q1, s1, p1⟩
    | false => subst e1; exact p1.here q1 rfl
theorem ptd_or {a b : Expr} {rest : List Expr} {ra rb : Sl → Hh → R D} (ha : PT X a (tT (kX X ca ea) W (rT ra))) (hb : PW X (.BoolOp .Or (b :: rest) pos) (tT (kX X ca ea) W (rT rb))) : PT X (.BoolOp .Or (a :: b :: rest) pos) (tT (kX X ca ea) W (rT (orR ra rb))) :=
  PT.imp (pw_or ha hb).pt fun σV H Q p => by
    refine (tX.bind (Rm := fun _ a b => a = b) (p.eq (rT_or ra rb))).imp fun b H1 ⟨w1, σ, a, h1, e1, q1, s1, r1, p1⟩ => ?_
    subst r1
    cases a with
    | false => exact ⟨w1, σ, h1, e1, q1, s1, p1⟩
    | true => subst e1; exact p1.here q1 rfl
theorem ped_and {a b : Expr} {rest : List Expr} {ra rb : Sl → Hh → R D} (ha : PE X a (tE (kX X ca ea) W ra)) (hb : PE X (.BoolOp .And (b :: rest) pos) (tE (kX X ca ea) W rb)) : PE X (.BoolOp .And (a :: b :: rest) pos) (tE (kX X ca ea) W (andR ra rb)) :=
  PE.imp (pe_andT ha hb) fun σV H Q p => by
    refine (tX.bind (Rm := Rep (kX X ca ea)) p).imp fun x H1 ⟨w1, σ, a, h1, e1, q1, s1, r1, p1⟩ => ?_
    subst e1
    obtain ⟨b, tb, p2⟩ := truV_post q1 r1 p1
    refine ⟨b, tb, ?_⟩
    cases b with
    | true => exact ⟨w1, σ, h1, rfl, q1, s1, p2⟩
    | false => exact p2.here q1 r1
theorem ped_or {a b : Expr} {rest : List Expr} {ra rb : Sl → Hh → R D} (ha : PE X a (tE (kX X ca ea) W ra)) (hb : PE X (.BoolOp .Or (b :: rest) pos) (tE (kX X ca ea) W rb)) : PE X (.BoolOp .Or (a :: b :: rest) pos) (tE (kX X ca ea) W (orR ra rb)) :=
  PE.imp (pe_orT ha hb) fun σV H Q p => by
    refine (tX.bind (Rm := Rep (kX X ca ea)) p).imp fun x H1 ⟨w1, σ, a, h1, e1, q1, s1, r1, p1⟩ => ?_
    subst e1
    obtain ⟨b, tb, p2⟩ := truV_post q1 r1 p1
    refine ⟨b, tb, ?_⟩
    cases b with
    | false => exact ⟨w1, σ, h1, rfl, q1, s1, p2⟩
    | true => exact p2.here q1 r1
abbrev notR (ra : Sl → Hh → R D) : Sl → Hh → R D := fun σ h => (ra σ h).bind fun x h => (R.opt (truthy h x) h).bind fun k h => .ok (.bl (!k)) h
theorem ped_not {a : Expr} {ra : Sl → Hh → R D} (ha : PE X a (tE (kX X ca ea) W ra)) : PE X (.UnaryOp .Not a pos) (tE (kX X ca ea) W (notR ra)) :=
  PE.imp (pe_notT ha) fun σV H Q p => by
    refine (tX.bind (Rm := Rep (kX X ca ea)) p).imp fun x H1 ⟨w1, σ, a, h1, e1, q1, s1, r1, p1⟩ => ?_
    subst e1
    obtain ⟨b, tb, p2⟩ := truV_post q1 r1 p1
    exact ⟨b, tb, p2.here q1 (Rep.bl _)⟩
theorem rT_not (ra : Sl → Hh → R D) (σ : Sl) (h : Hh) : rT (notR ra) σ h = (rT ra σ h).bind fun k h => .ok (!k) h := by
  unfold rT notR
  cases ra σ h with
  | bad => rfl
  | ex c l h1 => rfl
  | ok x h1 =>
    simp only [R.bind_ok]
    cases e : truthy h1 x with
    | none => rfl
    | some b => cases b <;> simp [e, truthy]
theorem ptd_not {a : Expr} {ra : Sl → Hh → R D} (ha : PT X a (tT (kX X ca ea) W (rT ra))) : PT X (.UnaryOp .Not a pos) (tT (kX X ca ea) W (rT (notR ra))) :=
  PT.imp (pt_not ha) fun σV H Q p => by
    refine (tX.bind (Rm := fun _ a b => a = b) (p.eq (rT_not ra))).imp fun b H1 ⟨w1, σ, a, h1, e1, q1, s1, r1, p1⟩ => ?_
    subst r1; subst e1
    exact p1.here q1 rfl
theorem ped_ife {c a b : Expr} {rc : Sl → Hh → R Bool} {ra rb : Sl → Hh → R D} (hc : PT X c (tT (kX X ca ea) W rc)) (ha : PE X a (tE (kX X ca ea) W ra)) (hb : PE X b (tE (kX X ca ea) W rb)) :
    PE X (.IfExp c a b pos) (tE (kX X ca ea) W fun σ h => (rc σ h).bind fun k h => if k then ra σ h else rb σ h) :=
  PE.imp (pe_ifExp hc ha hb) fun σV H Q p => by
    refine (tX.bind (Rm := fun _ a b => a = b) p).imp fun b H1 ⟨w1, σ, a, h1, e1, q1, s1, r1, p1⟩ => ?_
    subst r1
    cases a with
    | true => exact ⟨w1, σ, h1, e1, q1, s1, p1⟩
    | false => exact ⟨w1, σ, h1, e1, q1, s1, p1⟩
/-! ### comparisons as tests -/
theorem tE.two' {k : Kx} {ra rb : Sl → Hh → R D} {g : D → D → Hh → R D} {σV : L2.St} {H : Hp} {Q : VK}
    (h : tE k W (fun σ h => (ra σ h).bind fun x h => (rb σ h).bind fun y h => g x y h) σV H Q) : tOp (r2 k W g) (tE k W ra) (tE k W rb) σV H Q := tE.two h
abbrev cmpE (o : Co) (ra rb : Sl → Hh → R D) : Sl → Hh → R D := fun σ h => (ra σ h).bind fun x h => (rb σ h).bind fun y h => cmpR o x y h
theorem ptd_cmp {op : CmpOp} {o : Co} {a b : Expr} {ra rb : Sl → Hh → R D} (ho : OpR X (compareOp op) (r2 (kX X ca ea) W (cmpR o))) (ha : PE X a (tE (kX X ca ea) W ra)) (hb : PE X b (tE (kX X ca ea) W rb)) (hm : behindInMarks op b = false) :
    PT X (.Compare a [op] [b] pos) (tT (kX X ca ea) W (rT (cmpE o ra rb))) :=
  PT.imp (pt_cmpR ho ha hb hm) fun σV H Q p => by
    show tOp (r2 (kX X ca ea) W (cmpR o)) (tE (kX X ca ea) W ra) (tE (kX X ca ea) W rb) σV H fun z H1 => ∃ k, z = .bl k ∧ Q k H1
    refine tE.two ?_
    obtain ⟨w, σ, h, e, q, s, p⟩ := p
    refine ⟨w, σ, h, e, q, s, ?_⟩
    have key : ∀ r : R D, (∀ d h', r = .ok d h' → ∃ b, d = .bl b) → post (kX X ca ea) W (fun _ a b => a = b) w σV (r.bind fun x h => R.opt (truthy h x) h) Q → post (kX X ca ea) W (Rep (kX X ca ea)) w σV r fun z H1 => ∃ k, z = .bl k ∧ Q k H1 := fun r hr pr => by
      cases r with
      | bad => exact pr
      | ex c l h1 => exact pr
      | ok d h1 =>
        obtain ⟨b, rfl⟩ := hr d h1 rfl
        intro w' v x q' rv
        exact ⟨b, rv.blI, pr w' b x q' rfl⟩
    refine key _ (fun d h' ed => ?_) p
    replace ed : ((ra σ h).bind fun x h => (rb σ h).bind fun y h => (R.opt (cmpD h o x y) h).bind fun k h => .ok (.bl k) h) = .ok d h' := ed
    cases e1 : ra σ h with
    | bad => rw [e1] at ed; cases ed
    | ex c l h1 => rw [e1] at ed; cases ed
    | ok x h1 =>
      rw [e1] at ed
      simp only [R.bind_ok] at ed
      cases e2 : rb σ h1 with
      | bad => rw [e2] at ed; cases ed
      | ex c l h2 => rw [e2] at ed; cases ed
      | ok y h2 =>
        rw [e2] at ed
        simp only [R.bind_ok] at ed
        cases e3 : cmpD h2 o x y with
        | none => rw [e3] at ed; cases ed
        | some b => rw [e3] at ed; cases ed; exact ⟨b, rfl⟩
end
end Dy
end

section
set_option linter.all false
set_option maxRecDepth 100000
set_option maxHeartbeats 1000000
set_option Elab.async false
namespace Dy
open PySem PySem.Spec PyProof.Rows L2
section
variable {ca : Str → Addr} {ea : Ec} {W : Option WX} {X : Cx} {w : Wd} {h : Hh} {pos : Pos}
/-! ### rows of expressions -/
def notStar : Expr → Bool
  | .Starred _ _ => false
  | _ => true
theorem star_cons {e : Expr} (es : List Expr) (env : Env) (hn : notStar e = true) : starEach (e :: es) env = (false, eval e env) :: starEach es env := by
  cases e <;> first | (exact Bool.noConfusion hn) | rfl
theorem star_any {pos : Pos} {env : Env} : ∀ {es : List Expr}, es.all notStar = true → (backTo pos (starEach es env)).any (·.1) = false
  | [], _ => rfl
  | e :: es, hn => by
    simp only [List.all_cons, Bool.and_eq_true] at hn
    rw [star_cons es env hn.1]
    exact star_any hn.2
theorem asgn_cons {e : Expr} (es : List Expr) (env : Env) (hn : notStar e = true) : assignEach (e :: es) env = (false, assign e env) :: assignEach es env := by
  cases e <;> first | (exact Bool.noConfusion hn) | rfl
theorem asgn_len {env : Env} : ∀ {es : List Expr}, es.all notStar = true → (assignEach es env).length = es.length ∧ (assignEach es env).findIdx? (·.1) = none
  | [], _ => ⟨rfl, rfl⟩
  | e :: es, hn => by
    simp only [List.all_cons, Bool.and_eq_true] at hn
    rw [asgn_cons es env hn.1]
    obtain ⟨h1, h2⟩ := asgn_len (env := env) hn.2
    exact ⟨by simp [h1], by simp [List.findIdx?_cons, h2]⟩
abbrev rowE (r : Sl → Hh → R D) : Sl → Hh → R (List D) := fun σ h => rowR (r σ h)
abbrev consR (ra rb : Sl → Hh → R D) : Sl → Hh → R D := fun σ h => (ra σ h).bind fun x h => (rb σ h).bind fun y h => .ok (.tup (x :: asTup y)) h
/-- a row's value -/
def RowN (r : Sl → Hh → R D) (n : Nat) : Prop := ∀ σ h d h', r σ h = .ok d h' → ∃ l, d = .tup l ∧ l.length = n
theorem rowN_nil : RowN (fun _ h => .ok (.tup []) h) 0 := fun σ h d h' e => by cases e; exact ⟨[], rfl, rfl⟩
theorem rowN_cons {ra rb : Sl → Hh → R D} {n : Nat} (hb : RowN rb n) : RowN (consR ra rb) (n + 1) := fun σ h d h' e => by
  replace e : ((ra σ h).bind fun x h => (rb σ h).bind fun y h => .ok (.tup (x :: asTup y)) h) = .ok d h' := e
  cases e1 : ra σ h with
  | bad => rw [e1] at e; cases e
  | ex c l h1 => rw [e1] at e; cases e
  | ok x h1 =>
    rw [e1] at e
    simp only [R.bind_ok] at e
    cases e2 : rb σ h1 with
    | bad => rw [e2] at e; cases e
    | ex c l h2 => rw [e2] at e; cases e
    | ok y h2 =>
      rw [e2] at e
      simp only [R.bind_ok] at e
      cases e
      obtain ⟨l, rfl, hl⟩ := hb _ _ _ _ e2
      exact ⟨x :: l, rfl, by simp [hl]⟩
theorem pad_nil : PA X [] (tA (kX X ca ea) W (rowE fun _ h => .ok (.tup []) h)) :=
  PA.imp pa_nil fun σV H Q ⟨w, σ, h, e, q, s, p⟩ => e ▸ p.here q RepL.nil
theorem pad_cons {e : Expr} {es : List Expr} {ra rb : Sl → Hh → R D} (ha : PE X e (tE (kX X ca ea) W ra)) (hb : PA X es (tA (kX X ca ea) W (rowE rb))) (hn : notStar e = true) :
    PA X (e :: es) (tA (kX X ca ea) W (rowE (consR ra rb))) :=
  PA.imp (pa_cons ha hb (star_cons es X.env hn)) fun σV H Q p => by
    have p : tA (kX X ca ea) W (fun σ h => (ra σ h).bind fun x h => (rowR (rb σ h)).bind fun l h => .ok (x :: l) h) σV H Q := p.eq fun σ h => by
      show rowR ((ra σ h).bind fun x h => (rb σ h).bind fun y h => .ok (.tup (x :: asTup y)) h) = _
      cases ra σ h with
      | bad => rfl
      | ex c l h1 => rfl
      | ok x h1 =>
        show rowR ((rb σ h1).bind fun y h => .ok (.tup (x :: asTup y)) h) = (rowR (rb σ h1)).bind fun l h => .ok (x :: l) h
        cases rb σ h1 <;> rfl
    refine (tX.bind (Rm := Rep (kX X ca ea)) p).imp fun x H1 ⟨w1, σ, a, h1, e1, q1, s1, r1, p1⟩ => ?_
    refine ⟨w1, σ, h1, e1, q1, s1, (p1.bind (Rm := RepL (kX X ca ea))).imp fun xs H2 ⟨w2, l, h2, e2, x2, q2, r2, p2⟩ => ?_⟩
    subst e2
    exact p2.here q2 (.cons (Rep.mono x2.li _ _ r1) r2)
/-- a row, read as its list -/
theorem row_of {r : Sl → Hh → R D} {n : Nat} (hr : RowN r n) (σ : Sl) (h : Hh) : r σ h = (rowR (r σ h)).bind fun l h => .ok (.tup l) h := by
  cases e : r σ h with
  | bad => rfl
  | ex c l h1 => rfl
  | ok d h1 => obtain ⟨l, rfl, _⟩ := hr _ _ _ _ e; rfl
theorem ped_tup {es : List Expr} {x1} {r : Sl → Hh → R D} {n : Nat} (ha : PA X es (tA (kX X ca ea) W (rowE r))) (hr : RowN r n) (hz : n ≤ sizeL) : PE X (.Tuple es x1 pos) (tE (kX X ca ea) W r) :=
  PE.imp (pe_tupF ha) fun σV H Q ⟨w, σ, h, e, q, s, p⟩ => by
    refine ⟨w, σ, h, e, q, s, ?_⟩
    rw [row_of hr] at p
    cases er : r σ h with
    | bad => rw [er] at p; exact False.elim p
    | ex c l h1 => rw [er] at p; show post _ _ _ _ _ (rowR (r σ h)) _; rw [er]; exact p
    | ok d h1 =>
      rw [er] at p
      show post _ _ _ _ _ (rowR (r σ h)) _
      rw [er]
      obtain ⟨l, rfl, hl⟩ := hr _ _ _ _ er
      intro w' vs x q' rl
      have rl : RepL (kX X ca ea) w' l vs := rl
      refine ⟨by rw [← rl.length, ← sizeL_eq]; omega, fun c o hc ho => ?_⟩
      have p : post (kX X ca ea) W (Rep (kX X ca ea)) w σV (.ok (.tup l) h1) Q := p
      exact (p.mono x).tup q' rl hc ho
theorem ped_lst {es : List Expr} {m : Bool} {r : Sl → Hh → R D} {n : Nat} (ha : PA X es (tA (kX X ca ea) W (rowE r))) (hr : RowN r n) (hz : n ≤ sizeL) : PE X (.List es pos) (tE (kX X ca ea) W fun σ h => (r σ h).bind fun x h => mkL m (asTup x) h) :=
  PE.imp (pe_lst ha) fun σV H Q ⟨w, σ, h, e, q, s, p⟩ => by
    refine ⟨w, σ, h, e, q, s, ?_⟩
    replace p : post (kX X ca ea) W (Rep (kX X ca ea)) w σV ((r σ h).bind fun x h => mkL m (asTup x) h) Q := p
    show post _ _ _ _ _ (rowR (r σ h)) _
    cases er : r σ h with
    | bad => rw [er] at p; exact False.elim p
    | ex c l h1 => rw [er] at p; exact p
    | ok d h1 =>
      rw [er] at p
      obtain ⟨l, rfl, hl⟩ := hr _ _ _ _ er
      intro w' vs x q' rl
      have rl : RepL (kX X ca ea) w' l vs := rl
      refine ⟨by rw [← rl.length, ← sizeL_eq]; omega, fun c hc => ?_⟩
      have p : post (kX X ca ea) W (Rep (kX X ca ea)) w σV (mkL m l h1) Q := p
      exact (p.mono x).lst q' rl hc
/-! ### calls of built-ins -/
abbrev blR (g : List D → Hh → R D) (r : Sl → Hh → R D) : Sl → Hh → R D := fun σ h => (r σ h).bind fun x h => g (asTup x) h
theorem bl_read {g : List D → Hh → R D} {r : Sl → Hh → R D} {σV : L2.St} {H : Hp} {Q : VK} (p : tE (kX X ca ea) W (blR g r) σV H Q) : tCB (rL (kX X ca ea) W g) (tA (kX X ca ea) W (rowE r)) σV H Q :=
  (tX.row p).imp fun b H1 ⟨w1, σ, a, h1, e1, q1, s1, r1, p1⟩ => ⟨w1, h1, a, σV, e1, q1, r1, p1⟩
theorem ped_blt {x : Str} {id : String} {p : Pos} {e : Expr} {es : List Expr} {g : List D → Hh → R D} {r : Sl → Hh → R D} (hc : CallR X (.builtin id) (rL (kX X ca ea) W g)) (hg : Gl X x) (hm : X.mg x = none) (hv : bootBuiltins x = some (.builtin id))
    (ha : PA X (e :: es) (tA (kX X ca ea) W (rowE r))) (hn : x ≠ "__name__") (hdb : (x == ("__debug__" : Str)) = false) (hs : (e :: es).all notStar = true) : PE X (.Call (.Name x p) (e :: es) [] pos) (tE (kX X ca ea) W (blR g r)) := by
  simp only [List.all_cons, Bool.and_eq_true] at hs
  exact PE.imp (pe_callB hc hg hm hv ha hn hdb (star_cons es X.env hs.1) (star_any hs.2)) fun σV H Q p => bl_read p
theorem ped_bltT {x : Str} {T : String} {p : Pos} {e : Expr} {es : List Expr} {g : List D → Hh → R D} {r : Sl → Hh → R D} (hc : CallR X (.type T) (rL (kX X ca ea) W g)) (hg : Gl X x) (hm : X.mg x = none) (hv : bootBuiltins x = some (.type T))
    (ha : PA X (e :: es) (tA (kX X ca ea) W (rowE r))) (hn : x ≠ "__name__") (hdb : (x == ("__debug__" : Str)) = false) (hs : (e :: es).all notStar = true) : PE X (.Call (.Name x p) (e :: es) [] pos) (tE (kX X ca ea) W (blR g r)) := by
  simp only [List.all_cons, Bool.and_eq_true] at hs
  exact PE.imp (pe_callTy hc hg hm hv ha hn hdb (star_cons es X.env hs.1) (star_any hs.2)) fun σV H Q p => bl_read p
/-! ### subscripts, slices -/
theorem ped_sub (hu : X.A.units + 1 < cLine) {a b : Expr} {ra rb : Sl → Hh → R D} (ha : PE X a (tE (kX X ca ea) W ra)) (hb : PE X b (tE (kX X ca ea) W rb)) (hs : PlainIx b) :
    PE X (.Subscript a b pos) (tE (kX X ca ea) W fun σ h => (ra σ h).bind fun x h => (rb σ h).bind fun y h => R.opt (subD h x y) h) :=
  PE.imp (pe_ix (ix_D (W := W) (ca := ca) (ea := ea) hu) ha hb hs) fun σV H Q p => tE.two p
def oneR (r : Sl → Hh → R D) : Sl → Hh → R (Option Int) := fun σ h => (r σ h).bind fun x h => R.opt (boundOf x) h
theorem un_read {ra : Sl → Hh → R D} {g : D → Hh → R D} {σV : L2.St} {H : Hp} {Q : VK} (p : tE (kX X ca ea) W (fun σ h => (ra σ h).bind g) σV H Q) : tUn (r1 (kX X ca ea) W g) (tE (kX X ca ea) W ra) σV H Q :=
  (tX.bind (Rm := Rep (kX X ca ea)) p).imp fun x H1 ⟨w1, σ, a, h1, e1, q1, s1, r1, p1⟩ => ⟨w1, h1, a, σV, e1, q1, r1, p1⟩
theorem ped_neg {a : Expr} {ra : Sl → Hh → R D} (ha : PE X a (tE (kX X ca ea) W ra)) : PE X (.UnaryOp .USub a pos) (tE (kX X ca ea) W fun σ h => (ra σ h).bind fun x h => match x with
    | .int i => .ok (.int (-i)) h
    | _ => .bad) := PE.imp (pe_un (un_negD (W := W) (ca := ca) (ea := ea)) ha) fun σV H Q p => un_read p
end
end Dy
end

section
set_option linter.all false
set_option maxRecDepth 100000
set_option maxHeartbeats 1000000
set_option Elab.async false
namespace Dy
open PySem PySem.Spec PyProof.Rows L2
section
variable {ca : Str → Addr} {ea : Ec} {W : Option WX} {X : Cx} {w : Wd} {h : Hh} {pos : Pos}
/-! ### slices -/
abbrev tO (k : Kx) (W : Option WX) (r : Sl → Hh → R (Option Int)) : TO := tX k W (fun _ a b => a = b) r
theorem PO.imp {e : Option Expr} {t t' : TO} (h : PO X e t) (i : ∀ σ H Q, t' σ H Q → t σ H Q) : PO X e t' := ⟨fun pins s σ H Q I q => h.run pins s σ H Q I (i σ H Q q)⟩
theorem pod_none : PO X none (tO (kX X ca ea) W fun _ h => bdR true (.ok .non h)) :=
  PO.imp po_none fun σV H Q ⟨w, σ, h, e, q, s, p⟩ => e ▸ p.here q rfl
theorem pod_some {e : Expr} {r : Sl → Hh → R D} (he : PE X e (tE (kX X ca ea) W r)) : PO X (some e) (tO (kX X ca ea) W fun σ h => bdR false (r σ h)) :=
  PO.imp (po_some he) fun σV H Q p => by
    refine (tX.bind (Rm := Rep (kX X ca ea)) p).imp fun x H1 ⟨w1, σ, a, h1, e1, q1, s1, r1, p1⟩ => ?_
    subst e1
    cases a <;> first | exact False.elim p1 | skip
    cases r1.intI
    exact ⟨_, rfl, p1.here q1 rfl⟩
abbrev sliR (m : Bool) (ra : Sl → Hh → R D) (rl rh : Sl → Hh → R (Option Int)) : Sl → Hh → R D := fun σ h => (ra σ h).bind fun a h => (rl σ h).bind fun x h => (rh σ h).bind fun y h => sliD m a x y h
theorem ped_sli {m : Bool} {e : Expr} {lo hi : Option Expr} {p2 : Pos} {ra : Sl → Hh → R D} {rl rh : Sl → Hh → R (Option Int)} (he : PE X e (tE (kX X ca ea) W ra)) (hl : PO X lo (tO (kX X ca ea) W rl)) (hh : PO X hi (tO (kX X ca ea) W rh)) :
    PE X (.Subscript e (.Slice lo hi none p2) pos) (tE (kX X ca ea) W (sliR m ra rl rh)) :=
  PE.imp (pe_slice (sl_D (W := W) (ca := ca) (ea := ea) (m := m)) he hl hh) fun σV H Q p => by
    refine (tX.bind (Rm := Rep (kX X ca ea)) p).imp fun x H1 ⟨w1, σ, a, h1, e1, q1, s1, r1, p1⟩ => ?_
    refine ⟨w1, σ, h1, e1, q1, s1, (p1.bind (Rm := fun _ a b => a = b)).imp fun l H2 ⟨w2, l', h2, e2, x2, q2, r2, p2⟩ => ?_⟩
    subst r2
    refine ⟨w2, σ, h2, e2, q2, s1.mono x2.li, (p2.bind (Rm := fun _ a b => a = b)).imp fun u H3 ⟨w3, u', h3, e3, x3, q3, r3, p3⟩ => ?_⟩
    subst r3
    exact ⟨w3, h3, a, σV, e3, q3, Rep.mono (x2.trans x3).li _ _ r1, p3⟩
/-! ### methods -/
abbrev metR (m : Bool) (t : Mt) (ro re : Sl → Hh → R D) : Sl → Hh → R D := fun σ h => (ro σ h).bind fun a h => if t.rcv h a then (re σ h).bind fun x h => metD m t a (asTup x) h else .bad
theorem rcv_ty {t : Mt} {a : D} {x : V} (q : WR (kX X ca ea) w h) (r : Rep (kX X ca ea) w a x) (e : t.rcv h a = true) (T : String) (hT : (t.kind = 0 ∧ T = "list") ∨ (t.kind = 1 ∧ T = "str")) : tyV X.K T x w.H := by
  unfold Mt.rcv at e
  rcases hT with ⟨hk, rfl⟩ | ⟨hk, rfl⟩
  · rw [hk] at e
    simp only at e
    cases hl : Dy.lstOf h a with
    | none => rw [hl] at e; cases e
    | some l =>
      obtain ⟨p, vs, rfl, h1, _⟩ := q.lstOf hl r
      exact .inl ⟨rfl, vs, SqL.of h1⟩
  · rw [hk] at e
    simp only at e
    cases a <;> first | (exact Bool.noConfusion e) | skip
    cases r.strI
    rfl
theorem ped_met {m : Bool} {t : Mt} {o e : Expr} {es : List Expr} {name : Str} {T id : String} {apos cpos : Pos} {ro re : Sl → Hh → R D} (pa : PlainAttrs T) (slot : Slot T name id) (hty : typeOf (.builtin id) = pure (.type "method_descriptor"))
    (hm : MtR X id (mR ca ea X W m t)) (hT : (t.kind = 0 ∧ T = "list") ∨ (t.kind = 1 ∧ T = "str")) (ho : PE X o (tE (kX X ca ea) W ro)) (ha : PA X (e :: es) (tA (kX X ca ea) W (rowE re)))
    (hbase : attributeBase o name X.env (eval o X.env) = eval o X.env) (hfew : (e :: es).length < 30) (hline : (apos.endLine == cpos.line) = true) (hs : (e :: es).all notStar = true) :
    PE X (.Call (.Attribute o name apos) (e :: es) [] cpos) (tE (kX X ca ea) W (metR m t ro re)) := by
  have hs0 := hs
  simp only [List.all_cons, Bool.and_eq_true] at hs
  have hall : ∀ es : List Expr, es.all notStar = true → (backTo cpos (starEach es X.env)).all (fun x => !x.1) = true := fun es he => by
    have := star_any (pos := cpos) (env := X.env) he
    rw [List.any_eq_false] at this
    rw [List.all_eq_true]
    intro x hx
    simpa using this x hx
  refine PE.imp (pe_bm pa slot hty hm ho ha hbase ?_ hline (star_cons es X.env hs.1) (star_any hs.2)) fun σV H Q p => ?_
  · rw [hall _ hs0]
    have : (e :: es).length + ([] : List Keyword).length + (if ([] : List Keyword).isEmpty then 0 else 1) < 30 := by simpa using hfew
    rw [decide_eq_true this]
    rfl
  · refine (tX.bind (Rm := Rep (kX X ca ea)) p).imp fun x H1 ⟨w1, σ, a, h1, e1, q1, s1, r1, p1⟩ => ?_
    subst e1
    split at p1
    · rename_i hr
      refine ⟨rcv_ty q1 r1 hr T hT, ?_⟩
      have p2 : tE (kX X ca ea) W (fun σ h => (re σ h).bind fun x h => metD m t a (asTup x) h) σV w1.H Q := ⟨w1, σ, h1, rfl, q1, s1, p1⟩
      have p3 : post (kX X ca ea) W (Rep (kX X ca ea)) w1 σV ((rowR (re σ h1)).bind fun l h => metD m t a l h) Q := by
        rw [← evalL_bind]; exact p1
      exact ⟨w1, σ, h1, rfl, q1, s1, (p3.bind (Rm := RepL (kX X ca ea))).imp fun xs H2 ⟨w2, l, h2, e2, x2, q2, r2, p4⟩ => ⟨w2, h2, a, l, σV, e2, q2, Rep.mono x2.li _ _ r1, r2, p4⟩⟩
    · exact False.elim p1
theorem ped_met0 {m : Bool} {t : Mt} {o : Expr} {name : Str} {T id : String} {apos cpos : Pos} {ro : Sl → Hh → R D} (pa : PlainAttrs T) (slot : Slot T name id) (hty : typeOf (.builtin id) = pure (.type "method_descriptor"))
    (hm : MtR X id (mR ca ea X W m t)) (hT : (t.kind = 0 ∧ T = "list") ∨ (t.kind = 1 ∧ T = "str")) (ho : PE X o (tE (kX X ca ea) W ro))
    (hbase : attributeBase o name X.env (eval o X.env) = eval o X.env) (hline : (apos.endLine == cpos.line) = true) :
    PE X (.Call (.Attribute o name apos) [] [] cpos) (tE (kX X ca ea) W (metR m t ro fun _ h => .ok (.tup []) h)) := by
  refine PE.imp (pe_bm0 pa slot hty hm ho hbase hline) fun σV H Q p => ?_
  refine (tX.bind (Rm := Rep (kX X ca ea)) p).imp fun x H1 ⟨w1, σ, a, h1, e1, q1, s1, r1, p1⟩ => ?_
  subst e1
  split at p1
  · rename_i hr
    exact ⟨rcv_ty q1 r1 hr T hT, w1, h1, a, [], σV, rfl, q1, r1, .nil, p1⟩
  · exact False.elim p1
/-! ### comprehensions -/
theorem ped_lc {m : Bool} {t : Tg} {rit : Sl → Hh → R Src} {rc : Sl → Hh → R Bool} {re : Sl → Hh → R D} {elt tg iter : Expr} {ifs : List Expr} {scope : Scope} {own : List (Str × Nat)} (hc : X.calm = true) (hN : X.N.Nodup) (hi : PI X tg iter (tI (kX X ca ea) W rit)) (ok : BlkOk X.N X.env.scope scope own) (ho : own.map (·.2) = t.slots)
    (hg : ∀ (s : Shared) (H : Hp) (C : Addr) (cl : List (Str × Addr)) (fp : List Addr), PG (X.blk s H scope (compEnvC scope cl C X.env) fp) tg (gD (kX X ca ea) t)) (ht : ∀ (s : Shared) (H : Hp) (C : Addr) (cl : List (Str × Addr)) (fp : List Addr), PTs (X.blk s H scope (compEnvC scope cl C X.env) fp) ifs (tT (kX X ca ea) none rc))
    (he : ∀ (s : Shared) (H : Hp) (C : Addr) (cl : List (Str × Addr)) (fp : List Addr), PE (X.blk s H scope (compEnvC scope cl C X.env) fp) elt (tE (kX X ca ea) none re)) (hs : ∀ x, foldedSetIterable iter X.env x = pure x) :
    PE X (.ListComp elt [⟨tg, iter, ifs, 0⟩] scope pos) (tE (kX X ca ea) W (lcR m t rit rc re)) :=
  PE.imp (pe_lc hc hN hi ok hg ht he hs) fun σV H Q p => by rw [ho]; exact lc_read p
theorem psd_setLc {m : Bool} {t : Tg} {rit : Sl → Hh → R Src} {rc : Sl → Hh → R Bool} {re : Sl → Hh → R D} {i : Nat} {y : Str} {py spos : Pos} {elt tg iter : Expr} {ifs : List Expr} {scope : Scope} {own : List (Str × Nat)} (hc : X.calm = true) (hN : X.N.Nodup) (hy : X.N[i]? = some y) (hyl : X.env.scope.names.lookup y = some .local)
    (hsw : swapsWith (.ListComp elt [⟨tg, iter, ifs, 0⟩] scope pos) (some (.Name y py)) spos.line X.env = pure true) (hi : PI X tg iter (tI (kX X ca ea) W rit)) (ok : BlkOk X.N X.env.scope scope own) (ho : own.map (·.2) = t.slots)
    (hg : ∀ (s : Shared) (H : Hp) (C : Addr) (cl : List (Str × Addr)) (fp : List Addr), PG (X.blk s H scope (compEnvC scope cl C X.env) fp) tg (gD (kX X ca ea) t)) (ht : ∀ (s : Shared) (H : Hp) (C : Addr) (cl : List (Str × Addr)) (fp : List Addr), PTs (X.blk s H scope (compEnvC scope cl C X.env) fp) ifs (tT (kX X ca ea) none rc))
    (he : ∀ (s : Shared) (H : Hp) (C : Addr) (cl : List (Str × Addr)) (fp : List Addr), PE (X.blk s H scope (compEnvC scope cl C X.env) fp) elt (tE (kX X ca ea) none re)) (hs : ∀ x, foldedSetIterable iter X.env x = pure x) :
    PS X (.Assign [.Name y py] (.ListComp elt [⟨tg, iter, ifs, 0⟩] scope pos) spos) (tS (kX X ca ea) W (asgR (.nm i) (lcR m t rit rc re))) :=
  PS.imp (ps_setLc hc hN hy hyl hsw hi ok hg ht he hs) fun Z σV H p => by
    have q := asg_read p
    have q2 : tE (kX X ca ea) W (lcR m t rit rc re) σV H fun x H1 => gName i x σV H1 Z.nx := tX.imp q fun x H1 ⟨w, σ, h, d, σ', e, q, s, r, st, f⟩ => by
      subst e
      simp only [setT] at st
      cases st
      refine f _ (s.set i r) (fun j hj => ?_) (List.length_set ..)
      have : i ≠ j := fun z => hj (by simp [Tg.slots, z])
      exact List.getElem?_set_ne this
    show tLc (tI (kX X ca ea) W rit) (gD (kX X ca ea) t) (tT (kX X ca ea) none rc) (tE (kX X ca ea) none re) (own.map (·.2)) σV H _
    rw [ho]
    exact lc_read (m := m) q2
end
end Dy
end

section
set_option linter.all false
set_option maxRecDepth 100000
set_option maxHeartbeats 1000000
set_option Elab.async false
namespace Dy
open PySem PySem.Spec PyProof.Rows L2
section
variable {ca : Str → Addr} {ea : Ec} {W : Option WX} {X : Cx} {w : Wd} {h : Hh} {pos : Pos}
/-! ### xs[::-1] of lists -/
abbrev revR (m : Bool) (ro : Sl → Hh → R D) : Sl → Hh → R D := fun σ h => (ro σ h).bind fun a h => match a with
  | .tup _ => .bad
  | .str _ => .bad
  | a => revD m a h
theorem RepL.rev {k : Kx} {l : List D} {vs : List V} (r : RepL k w l vs) : RepL k w l.reverse vs.reverse := by
  induction l generalizing vs with
  | nil => rw [r.nil']; exact .nil
  | cons d l ih =>
    simp only [RepL] at r
    obtain ⟨u, ur, rfl, h1, h2⟩ := r
    rw [List.reverse_cons, List.reverse_cons]
    exact (ih h2).append (.cons h1 .nil)
theorem ped_rev {m : Bool} {e : Expr} {ro : Sl → Hh → R D} {k : Nat} {p1 p2 p3 : Pos} (he : PE X e (tE (kX X ca ea) W ro)) :
    PE X (.Subscript e (.Slice none none (some (.UnaryOp .USub (.Constant (.int 1) k p1) p2)) p3) pos) (tE (kX X ca ea) W (revR m ro)) :=
  PE.imp (pe_revL he) fun σV H Q p => by
    refine (tX.bind (Rm := Rep (kX X ca ea)) p).imp fun x H1 ⟨w1, σ, a, h1, e1, q1, s1, r1, p1⟩ => ?_
    subst e1
    cases a <;> first | exact False.elim p1 | skip
    · obtain ⟨b, vs, rfl, h2, r2⟩ := r1.lstI
      exact ⟨b, vs, rfl, SqL.of h2.1, fun c hc => post.lst (l := _) p1 q1 r2.rev hc⟩
    · rename_i n
      simp only [revD] at p1
      split at p1
      · rename_i l e'
        obtain ⟨b, vs, rfl, _, h2, r2⟩ := q1.lst e' r1
        exact ⟨b, vs, rfl, SqL.of h2, fun c hc => p1.lst q1 r2.rev hc⟩
      · exact False.elim p1
/-! ### list(range(..)) -/
theorem ped_listRg1 {m : Bool} {a : Expr} {ra : Sl → Hh → R D} {p p' pos' : Pos} (hc : X.calm = true) (hl : Gl X "list") (ml : X.mg "list" = none) (hg : Gl X "range") (hm : X.mg "range" = none) (ha : PE X a (tE (kX X ca ea) W ra)) (hs : notStar a = true) :
    PE X (.Call (.Name "list" p) [.Call (.Name "range" p') [a] [] pos'] [] pos) (tE (kX X ca ea) W fun σ h => (ra σ h).bind fun x h => (R.opt (rngD [x]) h).bind fun l h => if l.length ≤ sizeL then mkL m l h else .bad) :=
  PE.imp (pe_listRg hc hl ml (prg_1 hg hm ha (star_cons [] X.env hs))) fun σV H Q p => by
    show tE (kX X ca ea) W ra σV H fun x H1 => ∃ n, x = .int n ∧ (RgOk 0 n ∧ ∀ q, H1 q = none → Q (.ref q) (upd H1 q (.lst (rgV 0 n))))
    refine (tX.bind (Rm := Rep (kX X ca ea)) p).imp fun x H1 ⟨w1, σ, a, h1, e1, q1, s1, r1, p1⟩ => ?_
    subst e1
    cases e : rngD [a] with
    | none => rw [e] at p1; exact False.elim p1
    | some l =>
      rw [e] at p1
      simp only [R.opt_some, R.bind_ok] at p1
      rcases rng_cases e with ⟨j, ej, b, rfl⟩ | ⟨i, j, ej, _⟩
      · cases ej
        cases r1.intI
        split at p1
        · rename_i hz
          obtain ⟨b1, b2⟩ := smallI_bd b
          have hl : (rangeL 0 j).length = (j - 0).toNat := by unfold rangeL; simp
          have hsz : sizeL = 16777216 := rfl
          exact ⟨j, rfl, ⟨by omega, by omega, b1, b2, by omega⟩, fun c hc => p1.lst q1 (rng_rep 0 j) hc⟩
        · exact False.elim p1
      · cases ej
/-! ### isinstance -/
theorem ped_isi1 {t : Ty} {a : Expr} {x : Str} {ra : Sl → Hh → R D} {p p' : Pos} (hg : Gl X "isinstance") (hm : X.mg "isinstance" = none) (hv : bootBuiltins "isinstance" = some (.builtin "isinstance")) (ha : PE X a (tE (kX X ca ea) W ra)) (hs : notStar a = true)
    (ht : PE X (.Name x p') (tC (.ty t.nm))) : PE X (.Call (.Name "isinstance" p) [a, .Name x p'] [] pos) (tE (kX X ca ea) W fun σ h => (ra σ h).bind fun x h => isiD [t] x h) :=
  PE.imp (pe_callB (bl_isi1 (t := t) (ca := ca) (ea := ea) (W := W)) hg hm hv (pa_cons ha (pa_cons ht pa_nil rfl) (star_cons _ X.env hs)) (by decide) (by decide) (star_cons _ X.env hs) rfl) fun σV H Q p => by
    refine (tX.bind (Rm := Rep (kX X ca ea)) p).imp fun x H1 ⟨w1, σ, a, h1, e1, q1, s1, r1, p1⟩ => ?_
    exact ⟨x, w1, h1, a, σV, rfl, e1, q1, r1, p1⟩
/-! ### a < b < c -/
abbrev cmp2R (o o' : Co) (ra rb rc : Sl → Hh → R D) : Sl → Hh → R D := fun σ h => (ra σ h).bind fun x h => (rb σ h).bind fun y h => (R.opt (cmpD h o x y) h).bind fun k h =>
  if k then (rc σ h).bind fun z h => (R.opt (cmpD h o' y z) h).bind fun k h => .ok (.bl k) h else .ok (.bl false) h
theorem chain_read {o o' : Co} {ra rb rc : Sl → Hh → R D} {σV : L2.St} {H : Hp} {Q : VK} (p : tE (kX X ca ea) W (cmp2R o o' ra rb rc) σV H Q) :
    tChain (r2 (kX X ca ea) W (cmpR o)) (r2 (kX X ca ea) W (cmpR o')) (tE (kX X ca ea) W ra) (tE (kX X ca ea) W rb) (tE (kX X ca ea) W rc) σV H Q := by
  refine (tX.bind (Rm := Rep (kX X ca ea)) p).imp fun x H1 ⟨w1, σ, a, h1, e1, q1, s1, r1, p1⟩ => ?_
  refine ⟨w1, σ, h1, e1, q1, s1, (p1.bind (Rm := Rep (kX X ca ea))).imp fun y H2 ⟨w2, b, h2, e2, x2, q2, r2, p2⟩ => ?_⟩
  refine ⟨w2, h2, a, b, σV, e2, q2, Rep.mono x2.li _ _ r1, r2, ?_⟩
  show post (kX X ca ea) W (Rep (kX X ca ea)) w2 σV ((R.opt (cmpD h2 o a b) h2).bind fun k h => .ok (.bl k) h) _
  cases ec : cmpD h2 o a b with
  | none => rw [ec] at p2; exact False.elim p2
  | some c =>
    rw [ec] at p2
    simp only [R.opt_some, R.bind_ok] at p2 ⊢
    intro w3 z x3 q3 rz
    refine ⟨c, rz.blI, ?_⟩
    have p3 := p2.mono x3
    cases c with
    | false => exact p3.here q3 (Rep.bl _)
    | true =>
      simp only [if_true] at p3 ⊢
      have s3 := (s1.mono x2.li).mono x3.li
      refine ⟨w3, σ, h2, rfl, q3, s3, (p3.bind (Rm := Rep (kX X ca ea))).imp fun v H4 ⟨w4, d, h4, e4, x4, q4, r4, p4⟩ => ?_⟩
      exact ⟨w4, h4, b, d, σV, e4, q4, Rep.mono (x3.trans x4).li _ _ r2, r4, p4⟩
theorem ped_cmp2 {op op' : CmpOp} {o o' : Co} {a b c : Expr} {ra rb rc : Sl → Hh → R D} (ho : OpR X (compareOp op) (r2 (kX X ca ea) W (cmpR o))) (ho' : OpR X (compareOp op') (r2 (kX X ca ea) W (cmpR o'))) (ha : PE X a (tE (kX X ca ea) W ra)) (hb : PE X b (tE (kX X ca ea) W rb)) (hc : PE X c (tE (kX X ca ea) W rc)) (hm : lastMarks [op, op'] [b, c] = false) :
    PE X (.Compare a [op, op'] [b, c] pos) (tE (kX X ca ea) W (cmp2R o o' ra rb rc)) := PE.imp (pe_chain ho ho' ha hb hc hm) fun σV H Q p => chain_read p
theorem blT {k : Kx} {r : Sl → Hh → R D} (hr : ∀ σ h d h', r σ h = .ok d h' → ∃ b, d = .bl b) {σV : L2.St} {H : Hp} {Q : Bool → Hp → Prop} (p : tT k W (rT r) σV H Q) : tE k W r σV H fun z H1 => ∃ k, z = .bl k ∧ Q k H1 := by
  obtain ⟨w, σ, h, e, q, s, p⟩ := p
  refine ⟨w, σ, h, e, q, s, ?_⟩
  replace p : post k W (fun _ a b => a = b) w σV ((r σ h).bind fun x h => R.opt (truthy h x) h) Q := p
  cases er : r σ h with
  | bad => rw [er] at p; exact p
  | ex c l h1 => rw [er] at p; exact p
  | ok d h1 =>
    rw [er] at p
    obtain ⟨b, rfl⟩ := hr σ h d h1 er
    intro w' v x q' rv
    exact ⟨b, rv.blI, p w' b x q' rfl⟩
theorem cmp2_bl {o o' : Co} {ra rb rc : Sl → Hh → R D} (σ : Sl) (h : Hh) (d : D) (h' : Hh) (e : cmp2R o o' ra rb rc σ h = .ok d h') : ∃ b, d = .bl b := by
  replace e : ((ra σ h).bind fun x h => (rb σ h).bind fun y h => (R.opt (cmpD h o x y) h).bind fun k h =>
    if k then (rc σ h).bind fun z h => (R.opt (cmpD h o' y z) h).bind fun k h => .ok (.bl k) h else .ok (.bl false) h) = .ok d h' := e
  cases e1 : ra σ h with
  | bad => rw [e1] at e; cases e
  | ex c l h1 => rw [e1] at e; cases e
  | ok x h1 =>
    rw [e1] at e
    simp only [R.bind_ok] at e
    cases e2 : rb σ h1 with
    | bad => rw [e2] at e; cases e
    | ex c l h2 => rw [e2] at e; cases e
    | ok y h2 =>
      rw [e2] at e
      simp only [R.bind_ok] at e
      cases e3 : cmpD h2 o x y with
      | none => rw [e3] at e; cases e
      | some b =>
        rw [e3] at e
        simp only [R.opt_some, R.bind_ok] at e
        cases b with
        | false => simp only [Bool.false_eq_true, if_false] at e; cases e; exact ⟨_, rfl⟩
        | true =>
          simp only [if_true] at e
          cases e4 : rc σ h2 with
          | bad => rw [e4] at e; cases e
          | ex c l h3 => rw [e4] at e; cases e
          | ok z h3 =>
            rw [e4] at e
            simp only [R.bind_ok] at e
            cases e5 : cmpD h3 o' y z with
            | none => rw [e5] at e; cases e
            | some b => rw [e5] at e; cases e; exact ⟨_, rfl⟩
theorem ptd_cmp2 {op op' : CmpOp} {o o' : Co} {a b c : Expr} {ra rb rc : Sl → Hh → R D} (ho : OpR X (compareOp op) (r2 (kX X ca ea) W (cmpR o))) (ho' : OpR X (compareOp op') (r2 (kX X ca ea) W (cmpR o'))) (ha : PE X a (tE (kX X ca ea) W ra)) (hb : PE X b (tE (kX X ca ea) W rb)) (hc : PE X c (tE (kX X ca ea) W rc)) (hm : lastMarks [op, op'] [b, c] = false) :
    PT X (.Compare a [op, op'] [b, c] pos) (tT (kX X ca ea) W (rT (cmp2R o o' ra rb rc))) := PT.imp (pt_chain ho ho' ha hb hc hm) fun σV H Q p => chain_read (blT cmp2_bl p)
end
end Dy
end

section
set_option linter.all false
set_option maxRecDepth 100000
set_option maxHeartbeats 2000000
set_option Elab.async false
/-! Dy, part N: enumerate over tuples and lists. -/
namespace PySem
open Sem (wp)
open AutoSeq1 (wpAny_loadPart')
theorem dy_enumerate_newT (l : Addr) (items : Array Value) (n : Nat) (dct : Option Addr) (sl : Array (Option Value)) :
    Meets (Builtin.«enumerate.__new__» ⟨[.type "enumerate", .ref l], []⟩) (fun _ R s => s.heap.get? l = some { cls := .type "tuple", dict := dct, data := .seq items n, slots := sl } ∧
      R (.ok (.ret (.ref (s.heap.push { cls := .type "tuple_iterator", data := .fields #[.ref l, .int 0 0] }).objs.size)))
        { s with heap := (s.heap.push { cls := .type "tuple_iterator", data := .fields #[.ref l, .int 0 0] }).push { cls := .type "enumerate", data := .fields #[.none, .bool false, .ref s.heap.objs.size, rawInt 0, .none, .none] } }) :=
  .of_wp fun prog w A R s h => by
    obtain ⟨hp, g, d, tk, os⟩ := s; obtain ⟨hl, h⟩ := h
    have hsub := sub_enumerate
    have hL : Heap.IsTuple (Shared.heap ⟨hp, g, d, tk, os⟩) l items := ⟨_, hl, rfl, n, rfl⟩
    wp_walk using wpAny_loadPart' hl
    refine wpAny_stack_any fun st => wpAny_pure ?_
    split
    · rename_i c _ _ _ _ _
      cases (c == Value.type "enumerate")
      · wp_walk using wpAny_loadPart' hl, wpAny_pyIter_tuple hL
        exact ⟨_, rfl, h⟩
      · wp_walk using wpAny_loadPart' hl, wpAny_pyIter_tuple hL
        exact ⟨_, rfl, h⟩
    · wp_walk using wpAny_loadPart' hl, wpAny_pyIter_tuple hL
      exact ⟨_, rfl, h⟩
theorem dy_call_enumerate_tuple {prog : Program} {w : World} {A : Around} {E : Value → Shared → Prop} {s : Shared} {l : Addr} {items : Array Value} {Q : Value → Shared → Prop} (hL : s.heap.IsTuple l items)
    (h : ∀ h', IsEnum h' (s.heap.objs.size + 1) s.heap.objs.size 0 .none → h'.IsTupleIter s.heap.objs.size l 0 → h'.objs.size = s.heap.objs.size + 2 →
      (∀ b o, s.heap.get? b = some o → h'.get? b = some o) → Q (.ref (s.heap.objs.size + 1)) { s with heap := h' }) :
    wpAny (model prog w) A (call (.type "enumerate") [.ref l]) Q E s := by
  obtain ⟨⟨c, dct, dt, sl⟩, hl, hc, n, hd⟩ := hL
  replace hc : c = .type "tuple" := hc
  replace hd : dt = .seq items n := hd
  subst hc hd
  refine callType_new F.called_enumerate (by decide) (F.typeCall_enumerate_1 _) (F.newCall_enumerate_1 _) (fun obj => F.args_object_init_2 obj _) F.entry_enumerate_new
    (dy_enumerate_newT l items n dct sl) ⟨hl, ?_⟩
  have hz : (s.heap.push { cls := .type "tuple_iterator", data := .fields #[.ref l, .int 0 0] }).objs.size = s.heap.objs.size + 1 := Heap.size_push ..
  show _ ∧ _
  rw [hz]
  have he : IsEnum ((s.heap.push { cls := .type "tuple_iterator", data := .fields #[.ref l, .int 0 0] }).push
      { cls := .type "enumerate", data := .fields #[.none, .bool false, .ref s.heap.objs.size, rawInt 0, .none, .none] }) (s.heap.objs.size + 1) s.heap.objs.size 0 .none := by
    have := Heap.get?_push_size (s.heap.push { cls := .type "tuple_iterator", data := .fields #[.ref l, .int 0 0] })
      (o := { cls := .type "enumerate", data := .fields #[.none, .bool false, .ref s.heap.objs.size, rawInt 0, .none, .none] }) rfl
    rw [hz] at this; exact this
  refine ⟨⟨_, he, rfl⟩, h _ he ⟨_, Heap.get?_push_of_some _ (Heap.get?_push_size _ rfl), rfl, rfl⟩ (by rw [Heap.size_push, hz]) fun b o x => Heap.get?_push_of_some _ (Heap.get?_push_of_some _ x)⟩
end PySem
namespace Dy
open PySem PySem.Spec PyProof.Rows L2
/-- the tuple at a, each item in a new pair -/
def Itet (K : PySem.W.Frag) (a : Addr) : It :=
  ⟨fun i H => ∃ xs x, SqT K H a xs ∧ xs[i]? = some x, fun i H v H' => ∃ T x, v = .ref T ∧ H T = none ∧ H' = upd H T (.tup [.int (i : Nat), x]) ∧ ∀ xs, SqT K H a xs → xs[i]? = some x, fun i H => ∃ xs, SqT K H a xs ∧ xs.length ≤ i⟩
theorem ne_cls {h : Heap} {a b : Addr} {o u : Obj} (ha : h.get? a = some o) (hb : h.get? b = some u) (hc : o.cls ≠ u.cls) : a ≠ b := fun z => by
  subst z
  rw [ha] at hb; cases hb; exact hc rfl
theorem turn_enumT {P : Program} {w : World} {K : PySem.W.Frag} {elts : List Expr} {kk : Nat} {tpos : Pos} (a e it : Addr) :
    Turn P w K (.Tuple elts kk tpos) (Itet K a) [e, it] e (fun i h => (∃ old, IsEnum h e it ((i : Nat) : Int) old) ∧ h.IsTupleIter it a i ∧ e ≠ it) where
  mem := by simp
  obj := fun i h st b hb => by
    obtain ⟨⟨old, he⟩, ⟨o, ho, hc, hd⟩, _⟩ := st
    have e' : b = e ∨ b = it := by simpa using hb
    rcases e' with z | z
    · rw [z]; exact ⟨_, he, fun v q => nomatch q⟩
    · rw [z]; exact ⟨o, ho, fun v q => by rw [hd] at q; cases q⟩
  keep := fun i h h' st k => let ⟨⟨old, he⟩, hi, hne⟩ := st; ⟨⟨old, k e (by simp) _ he⟩, hi.at fun o q => k it (by simp) o q, hne⟩
  item := by
    intro X hP hw hK hc i pins s σ H E I hf st hg
    subst hP hw hK
    obtain ⟨⟨old, he⟩, hit, hne⟩ := st
    obtain ⟨xs, x, hq, hx⟩ := hg
    obtain ⟨its, rv, p, hz⟩ := I.tuple hq
    have p : s.heap.IsTuple a its.toArray := p
    obtain ⟨u, hu, ru⟩ := rv.get hx
    have hel : e < s.heap.objs.size := Heap.lt_size he
    have hil : it < s.heap.objs.size := by obtain ⟨_, q, _⟩ := hit; exact Heap.lt_size q
    have nea : e ≠ a := by obtain ⟨o, q, c, _⟩ := p; exact ne_cls he q (by rw [c]; intro z; injection z with z; exact absurd z (by decide))
    have nia : a ≠ it := by obtain ⟨o, q, c, _⟩ := p; obtain ⟨o2, q2, c2, _⟩ := hit; exact ne_cls q q2 (by rw [c, c2]; intro z; injection z with z; exact absurd z (by decide))
    have hlt : i < its.toArray.size := by
      have := (List.getElem?_eq_some_iff.mp hu).1
      simpa using this
    refine wpAny_pyNext_enum_itemD (Draws.tuple (A := X.A.in1) (I.ok.hd hc) it a nia its.toArray) he ⟨hit, p⟩ hlt hne (by simp [hne, nea]) fun x' h' tk hP ho hst hT hsz hk => ?_
    have ex : x' = u := by
      have : its[i]? = some x' := by simpa using hP
      rw [hu] at this; cases this; rfl
    subst ex
    obtain ⟨hit', _⟩ := hst
    refine ⟨_, rfl, wpAny_letOwnedTupleGo_enum (s := { s with heap := h', toks := tk + 1 }) ho fun h'' he' sb => ?_⟩
    have hT2 : h''.get? s.heap.objs.size = some { cls := .type "tuple", data := .seq #[.int i tk, x'] } := (sb.2 _ (Nat.ne_of_gt hel)).trans hT
    have new : ObjOk X.prog X.w (upd H s.heap.objs.size (.tup [.int (i : Nat), x])) h'' s.heap.objs.size (.tup [.int (i : Nat), x]) :=
      ⟨by show 2 ≤ sizeLine; decide, [.int i tk, x'], .cons ⟨_, rfl⟩ (.cons ru .nil), ⟨_, hT2, rfl, _, rfl⟩⟩
    have I1 : Inv X pins σ (upd H s.heap.objs.size (.tup [.int (i : Nat), x])) { s with heap := h'', toks := tk + 1 } :=
      I.turnedNew (ch := [e, it]) (fun b ob hb q => (sb.2 b (fun z => hb (by simp [z]))).trans (hk b ob (fun z => hb (by simp [z])) (fun z => hb (by simp [z])) q)) hf (Nat.le_refl _) new
    refine ⟨.ref s.heap.objs.size, _, I1, rfl, ⟨_, x, rfl, I.hok.fresh (Nat.le_refl _), rfl, fun ys hy => by rw [I.tuple_inj hy hq]; exact hx⟩, ⟨⟨x', ?_⟩, hit'.at fun o q => (sb.2 it (Ne.symm hne)).trans q, hne⟩, fun b hb => ?_⟩
    · have e1 : ((i + 1 : Nat) : Int) = (i : Int) + 1 := by omega
      rw [e1]; exact he'
    · have hb' : b < s.heap.objs.size := by
        have e' : b = e ∨ b = it := by simpa using hb
        rcases e' with z | z
        · rw [z]; exact hel
        · rw [z]; exact hil
      rw [upd_ne (Nat.ne_of_lt hb')]
      exact (hf b hb).1
  done := by
    intro X hP hw hK hc i pins s σ H E I hf st hg
    subst hP hw hK
    obtain ⟨⟨old, he⟩, hit, hne⟩ := st
    obtain ⟨xs, hq, hx⟩ := hg
    obtain ⟨its, rv, p, hz⟩ := I.tuple hq
    have p : s.heap.IsTuple a its.toArray := p
    obtain ⟨f0, f1, f2, f3, f4, f5⟩ := hf it (by simp)
    have nia : a ≠ it := by obtain ⟨o, q, c, _⟩ := p; obtain ⟨o2, q2, c2, _⟩ := hit; exact ne_cls q q2 (by rw [c, c2]; intro z; injection z with z; exact absurd z (by decide))
    have hl := rv.length
    have hT : s.TypeIs (.ref e) "enumerate" := ⟨_, he, rfl⟩
    unfold pyNext
    refine wpAny_bind (wpAny_attempt (wpAny_callSpecial?_slot (name := Str.ofString "__next__") hT PySem.F.slot_enumerate_next
      (wpAny_call_entry PySem.F.slot_enumerate_next hT PySem.F.entry_enumerate_next ?_ (PySem.F.args_enumerate_next_1 _))))
    show wpAny _ _ (field (.ref e) 2 >>= _) _ _ _
    refine wpAny_bind (wpAny_field he rfl (x := .ref it) rfl ?_)
    refine wpAny_bind (wpAny_nextOf_tuple_end (i := i) (items := its.toArray) (show X.A.in1.handled = none from I.ok.hd hc) hit p (by simp; omega) fun h' x he' hx' => ?_)
    obtain ⟨o, ho, hc'⟩ := hx'
    refine wpAny_bind (wpAny_isInstance (T := "StopIteration") (b := true) ⟨o, ho, hc'⟩ isSubtype_stop ?_)
    exact wpAny_pure ⟨rfl, I.turned (t' := s.toks) (fun b o hb q => he' b o hb q) f0 f1 f3 f4 f5⟩
  self := fun A i s Q E st h => let ⟨⟨_, he⟩, _⟩ := st; wpAny_pyIter_enum he h
section
variable {ca : Str → Addr} {ea : Ec} {W : Option WX} {X : Cx}
/-- enumerate(e), e a tuple or a list -/
def iEnumA (K : PySem.W.Frag) (ta : TA) : TI := fun σ H R => ta σ H fun vs H1 => ∃ a xs, vs = [.ref a] ∧ ((SqL K H1 a xs ∧ R (Ite K a) H1) ∨ (SqT K H1 a xs ∧ R (Itet K a) H1))
theorem pi_enumA {e : Expr} {ta : TA} {p pos tpos : Pos} {elts : List Expr} {kk : Nat} (hg : Gl X "enumerate") (hm : X.mg "enumerate" = none) (ha : PA X [e] ta) (hs : starEach [e] X.env = [(false, eval e X.env)]) :
    PI X (.Tuple elts kk tpos) (.Call (.Name "enumerate" p) [e] [] pos) (iEnumA X.K ta) := by
  refine ⟨fun pins s σ H R I h => ?_⟩
  refine Call_ (ld_blt I hg hm boot_enumerate (PyProof.Rows.callWith_type1 (thn (ha.run pos pins s σ H _ I h) fun us s1 ⟨vs, H1, I1, r1, q1⟩ => ?_) hs rfl))
  obtain ⟨a, xs, ex, ⟨hq, q⟩ | ⟨hq, q⟩⟩ := q1
  · subst ex
    cases r1 with
    | cons r rr =>
      cases rr
      cases r
      obtain ⟨its, rv, p', hz⟩ := I1.list hq
      refine call_enumerate_list p'.isList fun h' he hit hsz hk => wpAny_pyIter_enum he ?_
      have I2 : Inv X pins σ H1 { s1 with heap := h' } := I1.kept (t' := s1.toks) hk
      refine ⟨s1.heap.objs.size + 1, [s1.heap.objs.size + 1, s1.heap.objs.size], _, _, H1, rfl, I2, turn_enum a (s1.heap.objs.size + 1) s1.heap.objs.size, ⟨⟨.none, he⟩, hit, Nat.succ_ne_self _⟩, fun b hb => ?_, q⟩
      have e' : b = s1.heap.objs.size + 1 ∨ b = s1.heap.objs.size := by simpa using hb
      have hle : s1.heap.objs.size ≤ b := by
        rcases e' with z | z
        · rw [z]; exact Nat.le_add_right _ _
        · rw [z]; exact Nat.le_refl _
      exact I1.fpOk hle (I1.hok.fresh hle)
  · subst ex
    cases r1 with
    | cons r rr =>
      cases rr
      cases r
      obtain ⟨its, rv, p', hz⟩ := I1.tuple hq
      have p' : s1.heap.IsTuple a its.toArray := p'
      refine dy_call_enumerate_tuple p' fun h' he hit hsz hk => wpAny_pyIter_enum he ?_
      have I2 : Inv X pins σ H1 { s1 with heap := h' } := I1.kept (t' := s1.toks) hk
      refine ⟨s1.heap.objs.size + 1, [s1.heap.objs.size + 1, s1.heap.objs.size], _, _, H1, rfl, I2, turn_enumT a (s1.heap.objs.size + 1) s1.heap.objs.size, ⟨⟨.none, he⟩, hit, Nat.succ_ne_self _⟩, fun b hb => ?_, q⟩
      have e' : b = s1.heap.objs.size + 1 ∨ b = s1.heap.objs.size := by simpa using hb
      have hle : s1.heap.objs.size ≤ b := by
        rcases e' with z | z
        · rw [z]; exact Nat.le_add_right _ _
        · rw [z]; exact Nat.le_refl _
      exact I1.fpOk hle (I1.hok.fresh hle)
theorem enumL_len : ∀ (l : List D) (k : Nat), (enumL k l).length = l.length
  | [], _ => rfl
  | d :: r, k => by simp [enumL, enumL_len r]
theorem enumL_get : ∀ (l : List D) (k i : Nat), (enumL k l)[i]? = (l[i]?).map fun d => .pr (.int ((k + i : Nat) : Int)) d
  | [], _, _ => by simp [enumL]
  | d :: r, k, 0 => by simp [enumL]
  | d :: r, k, i + 1 => by
    simp only [enumL, List.getElem?_cons_succ]
    rw [enumL_get r (k + 1) i]
    have : k + 1 + i = k + (i + 1) := by omega
    rw [this]
theorem pair_rep {k : Kx} {w : Wd} {h : Hh} (q : WR k w h) {p : Addr} (hp : w.H p = none) {a b : D} {x y : V} (ra : Rep k w a x) (rb : Rep k w b y) : w.le (w.put p (.tup [x, y])) ∧ WR k (w.put p (.tup [x, y])) h ∧ Rep k (w.put p (.tup [x, y])) (.pr a b) (.ref p) :=
  ⟨q.le_put hp, q.put hp, Rep.pr_new (q.nL hp) ra rb (q.le_put hp).li⟩
theorem jr_ite {w : Wd} {a : Addr} {l : List D} {vs : List V} (st : StL w a vs) (r : RepL (kX X ca ea) w l vs) : JR (kX X ca ea) w (.its (enumL 0 l)) (Ite X.K a) := by
  refine ⟨fun i w' x hi => ?_, fun i w' x hi => ?_, fun i d w' h v H' x q e y => ?_⟩
  · rw [enumL_len] at hi
    exact ⟨vs, vs[i]'(by rw [← r.length]; exact hi), (st.mono x).sq, List.getElem?_eq_getElem _⟩
  · rw [enumL_len] at hi
    exact ⟨vs, (st.mono x).sq, by rw [← r.length]; exact hi⟩
  · rw [enumL_get] at e
    cases hl : l[i]? with
    | none => rw [hl] at e; cases e
    | some d0 =>
      rw [hl] at e; cases e
      obtain ⟨u, hu, ru⟩ := (RepL.mono x l vs r).get hl
      obtain ⟨P, z, rfl, hP, rfl, hz⟩ := y
      have := hz vs (st.mono x).sq
      rw [hu] at this; cases this
      obtain ⟨h1, h2, h3⟩ := pair_rep q hP (Rep.int (((0 + i : Nat)) : Int)) ru
      rw [Nat.zero_add] at h1 h2 h3
      rw [Nat.zero_add]
      exact ⟨_, rfl, h1, h2, h3⟩
theorem jr_itet {w : Wd} {a : Addr} {l : List D} {vs : List V} (st : StT X.K w a vs) (r : RepL (kX X ca ea) w l vs) : JR (kX X ca ea) w (.its (enumL 0 l)) (Itet X.K a) := by
  refine ⟨fun i w' x hi => ?_, fun i w' x hi => ?_, fun i d w' h v H' x q e y => ?_⟩
  · rw [enumL_len] at hi
    exact ⟨vs, vs[i]'(by rw [← r.length]; exact hi), (st.mono x).sq, List.getElem?_eq_getElem _⟩
  · rw [enumL_len] at hi
    exact ⟨vs, (st.mono x).sq, by rw [← r.length]; exact hi⟩
  · rw [enumL_get] at e
    cases hl : l[i]? with
    | none => rw [hl] at e; cases e
    | some d0 =>
      rw [hl] at e; cases e
      obtain ⟨u, hu, ru⟩ := (RepL.mono x l vs r).get hl
      obtain ⟨P, z, rfl, hP, rfl, hz⟩ := y
      have := hz vs (st.mono x).sq
      rw [hu] at this; cases this
      obtain ⟨h1, h2, h3⟩ := pair_rep q hP (Rep.int (((0 + i : Nat)) : Int)) ru
      rw [Nat.zero_add] at h1 h2 h3
      rw [Nat.zero_add]
      exact ⟨_, rfl, h1, h2, h3⟩
theorem ped_enum {e : Expr} {r : Sl → Hh → R D} {p pos tpos : Pos} {elts : List Expr} {kk : Nat} (hg : Gl X "enumerate") (hm : X.mg "enumerate" = none) (he : PE X e (tE (kX X ca ea) W r)) (hn : notStar e = true) :
    PI X (.Tuple elts kk tpos) (.Call (.Name "enumerate" p) [e] [] pos) (tI (kX X ca ea) W (srcE fun σ h => (r σ h).bind fun x h => match x with
    | .tup l => .ok (.tup (enumL 0 l)) h
    | .lst l => .ok (.tup (enumL 0 l)) h
    | _ => .bad)) := by
  refine PI.imp (pi_enumA hg hm (pa_cons he pa_nil (star_cons [] X.env hn)) (star_cons [] X.env hn)) fun σV H Z p => ?_
  show tE (kX X ca ea) W r σV H fun x H1 => ∃ a xs, [x] = [.ref a] ∧ ((SqL X.K H1 a xs ∧ Z (Ite X.K a) H1) ∨ (SqT X.K H1 a xs ∧ Z (Itet X.K a) H1))
  have p' : tI (kX X ca ea) W (fun σ h => (r σ h).bind fun x h => ((match x with
    | .tup l => .ok (.tup (enumL 0 l)) h
    | .lst l => .ok (.tup (enumL 0 l)) h
    | _ => .bad : R D)).bind fun s h => R.opt (srcOf h s) h) σV H Z := p.eq fun σ h => by
      simp only [srcE]
      cases r σ h <;> rfl
  refine (tX.bind (Rm := Rep (kX X ca ea)) p').imp fun x H1 ⟨w1, σ, a, h1, e1, q1, s1, r1, p1⟩ => ?_
  subst e1
  cases a <;> first | exact False.elim p1 | skip
  · obtain ⟨b, vs, rfl, h2, r2⟩ := r1.tupI
    exact ⟨b, vs, rfl, .inr ⟨h2.sq, p1.here q1 (jr_itet h2 r2)⟩⟩
  · obtain ⟨b, vs, rfl, h2, r2⟩ := r1.lstI
    exact ⟨b, vs, rfl, .inl ⟨SqL.of h2.1, p1.here q1 (jr_ite h2 r2)⟩⟩
end
end Dy
end

section
set_option linter.all false
set_option maxRecDepth 100000
set_option maxHeartbeats 2000000
set_option Elab.async false
/-! Dy, part Zip: zip(a, b) of two lists or two tuples -/
namespace Dy
open PySem PySem.Spec PyProof.Rows L2 RZ
theorem zipL_len : ∀ l m : List D, (zipL l m).length = min l.length m.length
  | [], m => by simp [zipL]
  | a :: l, [] => by simp [zipL]
  | a :: l, b :: m => by simp only [zipL, List.length_cons, zipL_len l m]; omega
theorem zipL_get : ∀ (l m : List D) (i : Nat) (d : D), (zipL l m)[i]? = some d → ∃ a b, l[i]? = some a ∧ m[i]? = some b ∧ d = .pr a b
  | [], m, i, d, e => by simp [zipL] at e
  | a :: l, [], i, d, e => by simp [zipL] at e
  | a :: l, b :: m, 0, d, e => by simp [zipL] at e; exact ⟨a, b, rfl, rfl, e.symm⟩
  | a :: l, b :: m, i + 1, d, e => by
    simp only [zipL, List.getElem?_cons_succ] at e ⊢
    exact zipL_get l m i d e
section
variable {ca : Str → Addr} {ea : Ec} {W : Option WX} {X : Cx}
theorem jr_zip {w : Wd} {a b : Addr} {l m : List D} {vs us : List V} (sa : StL w a vs) (sb : StL w b us) (ra : RepL (kX X ca ea) w l vs) (rb : RepL (kX X ca ea) w m us) : JR (kX X ca ea) w (.its (zipL l m)) (Itz X.K a b) := by
  have la := ra.length
  have lb := rb.length
  refine ⟨fun i w' x hi => ?_, fun i w' x hi => ?_, fun i d w' h v H' x q e y => ?_⟩
  · rw [zipL_len] at hi
    exact ⟨vs, us, vs[i]'(by omega), us[i]'(by omega), (sa.mono x).sq, (sb.mono x).sq, List.getElem?_eq_getElem _, List.getElem?_eq_getElem _⟩
  · rw [zipL_len] at hi
    exact ⟨vs, us, (sa.mono x).sq, (sb.mono x).sq, by omega⟩
  · obtain ⟨d1, d2, e1, e2, rfl⟩ := zipL_get l m i d e
    obtain ⟨u, hu, ru⟩ := (RepL.mono x l vs ra).get e1
    obtain ⟨u2, hu2, ru2⟩ := (RepL.mono x m us rb).get e2
    obtain ⟨P, z, z2, rfl, hP, rfl, hz, hz2⟩ := y
    have := hz vs (sa.mono x).sq
    rw [hu] at this; cases this
    have := hz2 us (sb.mono x).sq
    rw [hu2] at this; cases this
    obtain ⟨h1, h2, h3⟩ := pair_rep q hP ru ru2
    exact ⟨_, rfl, h1, h2, h3⟩
theorem jr_zipT {w : Wd} {a b : Addr} {l m : List D} {vs us : List V} (sa : StT X.K w a vs) (sb : StT X.K w b us) (ra : RepL (kX X ca ea) w l vs) (rb : RepL (kX X ca ea) w m us) : JR (kX X ca ea) w (.its (zipL l m)) (ItzT X.K a b) := by
  have la := ra.length
  have lb := rb.length
  refine ⟨fun i w' x hi => ?_, fun i w' x hi => ?_, fun i d w' h v H' x q e y => ?_⟩
  · rw [zipL_len] at hi
    exact ⟨vs, us, vs[i]'(by omega), us[i]'(by omega), (sa.mono x).sq, (sb.mono x).sq, List.getElem?_eq_getElem _, List.getElem?_eq_getElem _⟩
  · rw [zipL_len] at hi
    exact ⟨vs, us, (sa.mono x).sq, (sb.mono x).sq, by omega⟩
  · obtain ⟨d1, d2, e1, e2, rfl⟩ := zipL_get l m i d e
    obtain ⟨u, hu, ru⟩ := (RepL.mono x l vs ra).get e1
    obtain ⟨u2, hu2, ru2⟩ := (RepL.mono x m us rb).get e2
    obtain ⟨P, z, z2, rfl, hP, rfl, hz, hz2⟩ := y
    have := hz vs (sa.mono x).sq
    rw [hu] at this; cases this
    have := hz2 us (sb.mono x).sq
    rw [hu2] at this; cases this
    obtain ⟨h1, h2, h3⟩ := pair_rep q hP ru ru2
    exact ⟨_, rfl, h1, h2, h3⟩
theorem ped_zip {e e2 : Expr} {r r2 : Sl → Hh → R D} {p pos tpos : Pos} {elts : List Expr} {kk : Nat} (hg : Gl X "zip") (hm : X.mg "zip" = none) (he : PE X e (tE (kX X ca ea) W r)) (he2 : PE X e2 (tE (kX X ca ea) W r2)) (hn : notStar e = true) (hn2 : notStar e2 = true) :
    PI X (.Tuple elts kk tpos) (.Call (.Name "zip" p) [e, e2] [] pos) (tI (kX X ca ea) W (srcE fun σ h => (r σ h).bind fun x h => (r2 σ h).bind fun y h => zipD x y h)) := by
  refine PI.imp (pi_zipA hg hm (pa_cons he (pa_cons he2 pa_nil (star_cons [] X.env hn2)) (star_cons [e2] X.env hn)) (star_cons [e2] X.env hn) (by rw [star_cons [] X.env hn2]; rfl)) fun σV H Z p => ?_
  show tE (kX X ca ea) W r σV H fun x H1 => tE (kX X ca ea) W r2 σV H1 fun y H2 => ∃ a b xs ys, [x, y] = [.ref a, .ref b] ∧ ((SqL X.K H2 a xs ∧ SqL X.K H2 b ys ∧ Z (Itz X.K a b) H2) ∨ (SqT X.K H2 a xs ∧ SqT X.K H2 b ys ∧ Z (ItzT X.K a b) H2))
  have p' : tI (kX X ca ea) W (fun σ h => (r σ h).bind fun x h => (r2 σ h).bind fun y h => (zipD x y h).bind fun s h => R.opt (srcOf h s) h) σV H Z := p.eq fun σ h => by
      simp only [srcE]
      cases r σ h with
      | bad => rfl
      | ex c l h1 => rfl
      | ok x h1 =>
        show (((r2 σ h1).bind fun y h => zipD x y h).bind fun s h => R.opt (srcOf h s) h) = (r2 σ h1).bind fun y h => (zipD x y h).bind fun s h => R.opt (srcOf h s) h
        cases r2 σ h1 <;> rfl
  refine (tX.bind (Rm := Rep (kX X ca ea)) p').imp fun x H1 ⟨w1, σ, a, h1, e1, q1, s1, r1, p1⟩ => ?_
  subst e1
  refine ⟨w1, σ, h1, rfl, q1, s1, (post.bind (Rm := Rep (kX X ca ea)) p1).imp fun y H2 ⟨w2, b, h2, e3, x2, q2, r2', p2⟩ => ?_⟩
  subst e3
  have r1' := Rep.mono x2.li _ _ r1
  cases a <;> first | exact False.elim p2 | skip
  · cases b <;> first | exact False.elim p2 | skip
    obtain ⟨a, vs, rfl, k1, l1⟩ := r1'.tupI
    obtain ⟨b, us, rfl, k2, l2⟩ := r2'.tupI
    exact ⟨a, b, vs, us, rfl, .inr ⟨k1.sq, k2.sq, p2.here q2 (jr_zipT k1 k2 l1 l2)⟩⟩
  · cases b <;> first | exact False.elim p2 | skip
    obtain ⟨a, vs, rfl, k1, l1⟩ := r1'.lstI
    obtain ⟨b, us, rfl, k2, l2⟩ := r2'.lstI
    exact ⟨a, b, vs, us, rfl, .inl ⟨SqL.of k1.1, SqL.of k2.1, p2.here q2 (jr_zip k1 k2 l1 l2)⟩⟩
end
end Dy
end

section
set_option linter.all false
set_option maxRecDepth 100000
set_option maxHeartbeats 2000000
set_option Elab.async false
/-! Dy: exceptions in hand. -/
namespace Dy
open PySem PySem.Spec PyProof.Rows L2
/-- what the class at C of exceptions must say -/
structure XcC (K : PySem.W.Frag) (C : Addr) : Prop where
  ga : PySem.W.findIn K (.ref C) "__getattribute__" = some (some (.builtin "BaseException.__getattribute__"))
  gg : PySem.W.findIn K (.ref C) "__getattr__" = some none
  ex : PySem.W.subIn K (.ref C) (.type "BaseException") = some true
  hd : PySem.W.hasDictIn K C = true
  cl : PySem.W.findIn K (.ref C) "__class__" = some (some (.builtin "object.__class__"))
  gs : PySem.W.specialIn K (.builtin "object.__class__") "__get__" = some (some (.builtin "getset_descriptor.__get__"))
  tk : PySem.W.takesIn K (.builtin "object.__class__") = some true
  mo : PySem.W.mroIn K C (.type "object") = some true
section
open PySem.W PySem.Calls
variable {prog : Program} {w : World} {A : Around} {E : Value → Shared → Prop} {K : Frag} {x C : Addr} {ox : Obj}
theorem xc_cls (T : XcC K C) (od : Option Obj) : findObj K C od "__class__" = some (.bind (.builtin "getset_descriptor.__get__") (.builtin "object.__class__")) := by
  obtain ⟨cd, e, _⟩ := any_some T.hd
  unfold findObj
  rw [e, Option.bind_some, T.cl, Option.bind_some]
  simp [T.gs, T.tk]
theorem xc_ask {st : Shared} {R : Option Value → Shared → Prop} {od : Option Obj} (T : XcC K C) (kin : K.In st.heap) (J : InstAt st.heap x ox C od) (hq : R (some (.ref C)) { st with toks := st.toks + 1 }) :
    wpAny (model prog w) A (getAttr? (.ref x) "__class__") R E st := by
  obtain ⟨h0, g0, d0, t0, o0⟩ := st
  have ty := J.type (M := model prog w)
  have f1 := looks_findIn (M := model prog w) kin T.ga
  have f2 := looks_findIn (M := model prog w) kin T.gg
  have f3 := looks_find (M := model prog w) kin J (xc_cls T od)
  have isx : Looks (model prog w) h0 (isInstance (.ref x) (.type "BaseException")) true := ty.andThen (looks_subIn kin T.ex)
  have n0 : (false && onTheHeap (Value.builtin "BaseException.__getattribute__")) = false := rfl
  have n1 : (Value.builtin "BaseException.__getattribute__" == Value.builtin "object.__getattribute__") = false := by decide +kernel
  have n2 : (onTheHeap (Value.ref C) && Value.builtin "BaseException.__getattribute__" == Value.builtin "object.__getattribute__") = false := by rw [n1]; rfl
  unfold getAttr? getAttrBy? getAttrBy
  refine wpAny_bind (wpAny_mkText (wpAny_bind (wpAny_attempt (wpAny_holding (wpAny_bind (ty.at (wpAny_bind (f1.at ?_))))))))
  show wpAny _ _ (if (onTheHeap (Value.ref C) && Value.builtin "BaseException.__getattribute__" == Value.builtin "object.__getattribute__") = true then _ else _) _ _ _
  rw [n2, if_neg Bool.false_ne_true]
  unfold getAttrByItsOwn hookBefore
  refine wpAny_bind ?_
  rw [if_pos (show onTheHeap (Value.ref C) = true from rfl)]
  refine f2.at (wpAny_bind (wpAny_attempt (wpAny_holding ?_)))
  unfold callGetattribute
  rw [n0, if_neg Bool.false_ne_true]
  unfold boundAndCalled
  rw [PySem.F.excAttr_ValueError.ga.bind (.ref x)]
  refine wpAny_bind (wpAny_pure ?_)
  show wpAny _ _ (call (.builtin "BaseException.__getattribute__") [.ref x, .str "__class__" t0]) _ _ _
  refine wpAny_call (codeAny_call_builtin PySem.F.excAttr_ValueError.ga.plain PySem.F.entry_bexc_ga (@check_slot (model prog w) _ _ ⟨h0, g0, d0, t0 + 1, o0⟩ "BaseException.__getattribute__" "BaseException" "__getattribute__" (.ref x) [.str "__class__" t0] [] _
    (by decide +kernel) (by decide +kernel) isx (PySem.F.args_bexc_ga (.ref x) (.str "__class__" t0)) ?_))
  unfold Builtin.«object.__getattribute__»
  refine wpAny_bind (wpAny_of_eq (a := ((Value.ref x : Value), [Value.str "__class__" t0])) (by first | rfl | (simp only [slotArgs]; rfl)) (wpAny_bind (wpAny_pure (wpAny_bind (ty.at (wpAny_bind (f3.at ?_)))))))
  show wpAny _ _ (holding [Value.builtin "object.__class__"] (call (.builtin "getset_descriptor.__get__") [.builtin "object.__class__", .ref x, .ref C]) >>= ret) _ _ _
  refine wpAny_bind (wpAny_holding (wpAny_call (class_get (s := ⟨h0, g0, d0, t0 + 1, o0⟩) (ox := ox) (od := od) kin J T.mo (wpAny_pure ?_))))
  show wpAny _ _ (handedOut (.ref C)) _ _ _
  rw [handedOut_of (v := .ref C) rfl]
  first
    | exact wpAny_pure hq
    | exact wpAny_pure (wpAny_pure hq)
    | exact wpAny_pure (wpAny_bind (wpAny_pure (wpAny_pure hq)))
theorem xc_kit (T : XcC K C) : KitX K (.ref x) (.ref C) (fun h => ∃ od, InstAt h x ox C od) := by
  obtain ⟨cd, hcd, _⟩ := any_some T.hd
  unfold clsIn at hcd
  split at hcd
  · rename_i c1 d1 cd1 sl1 hk
    refine ⟨fun _ _ _ ⟨od, J⟩ => J.type, fun _ _ kin _ => ?_, fun h tp dd its n sl kin ht => ?_, fun kin ⟨od, J⟩ hq => xc_ask T kin J hq⟩
    · intro A' Q' E' s' kp q
      unfold isType loadHead
      exact wpAny_bind (wpAny_loadPart (kp _ _ (kin _ _ hk)) (wpAny_pure q))
    · refine Bool.eq_false_iff.mpr fun q => ?_
      have e : C = tp := Value.ref.inj (beq_iff_eq.mp q)
      subst e
      have z := (kin _ _ hk).symm.trans ht
      cases z
  · cases hcd
end
section
variable {X : Cx} {pins : List (Addr × Obj)} {σ : L2.St} {H : Hp} {s : Shared}
/-- the exception at a is in hand -/
structure InHand (X : Cx) (a C : Addr) (dd : Option Addr) : Prop where
  ex : ∃ oe, (a, oe) ∈ X.pn ∧ Zc (.ref C) dd oe ∧ ∃ vs, oe.data = .fields vs
theorem InHand.inst {a C dx : Addr} {fs : List (Str × V)} (J : InHand X a C (some dx)) (I : Inv X pins σ H s) (hx : H dx = some (.xd fs)) : ∃ (oe od : Obj) (mA : Str → Option Value), PySem.W.InstAt s.heap a oe C (some od) ∧ (∀ f, PySem.W.lookIn f od = some (mA f)) ∧ ∀ f, RelO (fs.lookup f) (mA f) := by
  obtain ⟨oe, hm, hz, vs, hd⟩ := J.ex
  obtain ⟨ha, _⟩ := I.pin (a, oe) (List.mem_append_left _ hm)
  obtain ⟨mA, hns, hr⟩ : ObjOk X.prog X.w H s.heap dx (.xd fs) := I.hok dx _ hx
  obtain ⟨od, ho, hl⟩ := lookIn_ns hns
  refine ⟨oe, od, mA, ⟨ha, hz.1, by unfold PySem.W.notCls; rw [hd] <;> rfl, by rw [hz.2]; exact ho⟩, fun f => by rw [hl], hr⟩
theorem InHand.inst0 {a C : Addr} {dd : Option Addr} (J : InHand X a C dd) (I : Inv X pins σ H s) (hx : ∀ dx, dd = some dx → ∃ fs, H dx = some (.xd fs)) : ∃ oe od, PySem.W.InstAt s.heap a oe C od := by
  cases dd with
  | some dx =>
    obtain ⟨fs, hf⟩ := hx dx rfl
    obtain ⟨oe, od, _, j, _⟩ := J.inst I hf
    exact ⟨oe, _, j⟩
  | none =>
    obtain ⟨oe, hm, hz, vs, hd⟩ := J.ex
    obtain ⟨ha, _⟩ := I.pin (a, oe) (List.mem_append_left _ hm)
    obtain ⟨oc, odd, oda, osl⟩ := oe
    obtain ⟨h1, h2⟩ := hz
    dsimp only at h1 h2 hd
    subst h1 h2 hd
    exact ⟨_, none, ha, rfl, rfl, trivial⟩
/-- e.f -/
def tExf (X : Cx) (f : Str) (te : TE) : TE := fun σ H Q => te σ H fun x H1 => ∃ a C dx fs v, x = .ref a ∧ InHand X a C (some dx) ∧ XcC X.K C ∧ PySem.W.findIn X.K (.ref C) f = some none ∧ H1 dx = some (.xd fs) ∧ fs.lookup f = some v ∧ Q v H1
theorem pe_exf {e : Expr} {te : TE} {f : Str} {pos : Pos} (he : PE X e te) (hb : attributeBase e f X.env (eval e X.env) = eval e X.env) : PE X (.Attribute e f pos) (tExf X f te) := by
  refine ⟨fun pins s σ H Q I h => attr_of hb (thn (he.run pins s σ H _ I h) fun u s1 ⟨x, H1, J, rx, a, C, dx, fs, v, ex, ih, T, na, hx, hl, q⟩ => ?_)⟩
  subst ex
  obtain rfl : u = Value.ref a := rx
  obtain ⟨oe, od, mA, ia, lk, rel⟩ := ih.inst J hx
  obtain ⟨u, hu, ru⟩ := RelO.some_of (v := v) (o := mA f) (by rw [← hl]; exact rel f)
  exact HandSPX.exc_get J.kIn ia T.ga T.gg T.ex (PySem.W.findObj_own T.hd na rfl (by rw [lk f, hu])) (handed_of ru) ⟨v, H1, J.tok _, ru, q⟩
/-- isinstance(e, C1), isinstance(e, (C1, ..)) -/
def rIsX (X : Cx) : List V → Hp → VK → Prop := fun xs H Q => ∃ (a C : Addr) (dd : Option Addr) (c : V) (b : Bool), xs = [.ref a, c] ∧ InHand X a C dd ∧ XcC X.K C ∧ (∀ dx, dd = some dx → ∃ fs, H dx = some (.xd fs)) ∧
  ((∃ cv, (∀ u, RelV c u → u = cv) ∧ PySem.W.kitOne X.K (.ref C) cv = some b) ∨ ∃ tp cs cvs, c = .ref tp ∧ SqT X.K H tp cs ∧ Paired (fun c cv => ∀ u, RelV c u → u = cv) cs cvs ∧ PySem.W.kitAny X.K (.ref C) cvs = some b) ∧ Q (.bl b) H
theorem vals_fix : ∀ {cs : List V} {cvs us : List Value}, Paired (fun c cv => ∀ u, RelV c u → u = cv) cs cvs → Vals cs us → us = cvs
  | _, _, _, .nil, .nil => rfl
  | _, _, _, .cons h r, .cons h2 r2 => by rw [h _ h2, vals_fix r r2]
theorem call_isX : CallR X (.builtin "isinstance") (rIsX X) := by
  intro pins s σ H xs us Q I r ⟨a, C, dd, c, b, ex, ih, T, hx, kd, q⟩
  subst ex
  obtain ⟨u1, u2, rfl, r1, r2⟩ := vals2 r
  obtain rfl : u1 = Value.ref a := r1
  obtain ⟨oe, od, J⟩ := ih.inst0 I hx
  rcases kd with ⟨cv, hcv, ek⟩ | ⟨tp, cs, cvs, ec, hT, hp, ek⟩
  · rw [hcv _ r2]
    exact PySem.W.kia_one (xc_kit (ox := oe) T) I.kIn ⟨od, J⟩ ek (fun z => nomatch z) fun tk => ⟨.bl b, H, I.kept (t' := tk) fun _ _ z => z, rfl, q⟩
  · subst ec
    obtain rfl : u2 = Value.ref tp := r2
    obtain ⟨its, rv, ⟨o, h1, h2, n, h3⟩, _⟩ := I.tuple hT
    have e3 := vals_fix hp rv
    subst e3
    obtain ⟨oc, odd, dt, sl⟩ := o
    simp only at h2 h3
    subst h2 h3
    exact PySem.W.kia_tup (xc_kit (ox := oe) T) I.kIn ⟨od, J⟩ h1 ek (fun z => nomatch z) fun tk => ⟨.bl b, H, I.kept (t' := tk) fun _ _ z => z, rfl, q⟩
end
end Dy
end

section
set_option linter.all false
set_option maxRecDepth 100000
set_option maxHeartbeats 2000000
set_option Elab.async false
/-! Dy: try with any except clauses of one class each, with and without names. -/
namespace Dy
open PySem PySem.Spec PyProof.Rows L2
/-- a clause: its class, the slot of its name, what its suite does -/
structure Hdl where
  c : Value
  n : Option Nat
  ts : Addr → Value → Option Addr → TS
def Hdl.ends (n : Option Nat) (D : Ends) : Ends := match n with
  | none => D
  | some i => { nx := fun σ H => D.nx (σ.set i none) H, rt := D.rt, bk := fun σ H => D.bk (σ.set i none) H, ct := fun σ H => D.ct (σ.set i none) H }
def Hdl.slots (n : Option Nat) (a : Addr) (σ : L2.St) : L2.St := match n with
  | none => σ
  | some i => σ.set i (some (.ref a))
/-- what the clauses want of an error of the body -/
def wHds (K : PySem.W.Frag) (Wo : WX) (D : Ends) : List Hdl → WX
  | [] => Wo
  | h :: r => fun cls d σ H => ∃ b, PySem.W.exmOne K cls h.c = some b ∧ (b = true → ∀ a, H a = none → h.ts a cls d (Hdl.ends h.n D) (Hdl.slots h.n a σ) H) ∧ (b = false → wHds K Wo D r cls d σ H)
inductive Hdls (X : Cx) : List ExceptHandler → List Hdl → Prop
  | nil : Hdls X [] []
  | bare {x : Str} {c : Value} {ts : Addr → Value → Option Addr → TS} {s0 : Stmt} {ss : List Stmt} {p1 p2 : Pos} {hs : List ExceptHandler} {l : List Hdl} (hc : Names X x c)
      (su : ∀ (a : Addr) (oe : Obj) (cls : Value) (d : Option Addr) (pn : List (Addr × Obj)), Zc cls d oe → (∃ vs, oe.data = .fields vs) → PSs (X.suite a ((a, oe) :: pn)) (s0 :: ss) (ts a cls d)) (r : Hdls X hs l) :
      Hdls X (.ExceptHandler (some (.Name x p1)) none (s0 :: ss) p2 :: hs) (⟨c, none, ts⟩ :: l)
  | as_ {x n : Str} {i : Nat} {c : Value} {ts : Addr → Value → Option Addr → TS} {s0 : Stmt} {ss : List Stmt} {p1 p2 : Pos} {hs : List ExceptHandler} {l : List Hdl} (hc : Names X x c) (hi : X.N[i]? = some n) (hl : X.env.kindOf n = some .local)
      (su : ∀ (a : Addr) (oe : Obj) (cls : Value) (d : Option Addr) (pn : List (Addr × Obj)), Zc cls d oe → (∃ vs, oe.data = .fields vs) → PSs (X.suite a ((a, oe) :: pn)) (s0 :: ss) (ts a cls d)) (r : Hdls X hs l) :
      Hdls X (.ExceptHandler (some (.Name x p1)) (some n) (s0 :: ss) p2 :: hs) (⟨c, some i, ts⟩ :: l)
section
variable {X : Cx} {pos : Pos} {body : List Stmt} {e0 : ExceptHandler} {es : List ExceptHandler} {l : List Hdl} {Wo : WX} {tb : WX → TS}
theorem sp_back {pins pn' : List (Addr × Obj)} {xe : Value → Shared → Prop} {D : Ends} {f : Flow} {st : Shared} (ok : X.Ok) (z : SP (X.tr (X.pn ++ pins) xe) pn' D f st) : SP X pins D f st := by
  cases f with
  | ret u => exact let ⟨v, σ1, H1, J, r, q⟩ := z; ⟨v, σ1, H1, J.ofTry ok, r, q⟩
  | next => exact let ⟨σ1, H1, J, q⟩ := z; ⟨σ1, H1, J.ofTry ok, q⟩
  | brk => exact let ⟨σ1, H1, J, q⟩ := z; ⟨σ1, H1, J.ofTry ok, q⟩
  | cont => exact let ⟨σ1, H1, J, q⟩ := z; ⟨σ1, H1, J.ofTry ok, q⟩
theorem ps_try_hds (hstk : X.stack = X.env :: X.outer) (hfr : X.env.frame = some X.env.locals) (nd : X.N.Nodup) (tk : Takes X Wo)
    (hb : ∀ (W : WX) (pn : List (Addr × Obj)) (xe : Value → Shared → Prop), Takes (X.tr pn xe) W → PassesOwn (model X.prog X.w) X.A X.env xe → PSs (X.tr pn xe) body (tb W))
    (hh : Hdls X (e0 :: es) l) : PS X (.Try body (e0 :: es) [] [] pos) (fun D σ H => tb (wHds X.K Wo D l) D σ H) := by
  refine ⟨fun pins s σ H D I hq => wpAny_Try_except ?_⟩
  have ok := I.ok
  have fA : X.A.frames = some (X.env :: X.outer) := by rw [ok.frames, hstk]
  have tk2 : Takes (X.tr (X.pn ++ pins) (fun e s₁ => wpAny (model X.prog X.w) X.A (noteFrame e X.env) (fun _ s₂ => wpAny (model X.prog X.w) X.A (setFlight e none) (fun _ s₃ =>
      wpAny (model X.prog X.w) X.A (handleBy e X.env (e0 :: es)) (SP X pins D) X.xe s₃) X.xe s₂) X.xe s₁)) (wHds X.K Wo D l) := by
    rintro u st ⟨a, B, sI, pins', σ1, H1, cls, d, rfl, J', nb, up, sky, na, os, ag, want⟩
    have J1 : Inv X pins σ1 H1 sI := J'.ofTry ok
    have sky1 : Sky B (X.env :: X.outer) a (Zc cls d) X.env.locals st.heap := by rw [← hstk]; exact sky
    show wpAny (model X.prog X.w) X.A (noteFrame (.ref a) X.env) _ _ _
    refine Sky.land Zc.steady fA hfr sky1 fun h3 fl3 up3 => ?_
    have J3 : Inv X pins σ1 H1 { st with heap := h3 } := J1.landed nb fl3.1 (up.trans up3) os ag
    obtain ⟨oe3, vs3, he3, hz3, hd3⟩ := fl3.there
    have nfr : a ∉ frs (X.env :: X.outer) := fun hm => by
      obtain ⟨_, o', e', hnf⟩ := fl3.2.2.1.mem hm
      rw [he3] at e'; cases e'
      exact hnf _ hd3
    have nL : a ≠ X.env.locals := fun z => nfr (List.mem_filterMap.mpr ⟨X.env, List.mem_cons_self, by rw [hfr, z]⟩)
    have nF : a ∉ X.fs := fun hm => by
      obtain ⟨e, he, q⟩ := List.mem_filterMap.mp hm
      exact nfr (List.mem_filterMap.mpr ⟨e, List.mem_cons_of_mem _ he, q⟩)
    have S3 := J3.suite he3 hd3 na nL nF
    have ty3 : PySem.W.Looks (model X.prog X.w) h3 (typeOf (.ref a)) cls := fun A Q E s k q => wpAny_typeOf_ref (k _ _ he3) (by rw [hz3.1]; exact q)
    have name : ∀ {x : Str} {c : Value} {np : Pos} {Q : Value → Shared → Prop} {E : Value → Shared → Prop}, Names X x c → Q c { st with heap := h3 } → wpAny (model X.prog X.w) (X.A.mark (some (.ref a))) (eval (.Name x np) X.env) Q E { st with heap := h3 } := fun {x c np Q E} hc q => by
      obtain ⟨hg, hdbg, hm | ⟨hm, hv, hnn⟩⟩ := hc
      · exact ld_glob (X := X.suite a ((a, oe3) :: (X.pn ++ pins))) S3 hg hm q hdbg
      · exact ld_blt (X := X.suite a ((a, oe3) :: (X.pn ++ pins))) S3 hg hm hv q hnn hdbg
    have land : ∀ {h4 : Heap}, HandSPX.FlyingZ B (X.env :: X.outer) a (Zc cls d) h4 → Heap.UpToSlots h3 h4 → ∃ oe4, Zc cls d oe4 ∧ (∃ vs, oe4.data = .fields vs) ∧ Inv (X.suite a ((a, oe4) :: (X.pn ++ pins))) [] σ1 H1 { st with heap := h4 } := fun {h4} fl4 up4 => by
      have J4 : Inv X pins σ1 H1 { st with heap := h4 } := J1.landed nb fl4.1 ((up.trans up3).trans up4) os ag
      obtain ⟨oe4, vs4, he4, hz4, hd4⟩ := fl4.there
      exact ⟨oe4, hz4, ⟨_, hd4⟩, J4.suite he4 hd4 na nL nF⟩
    have all : ∀ {hs' : List ExceptHandler} {l' : List Hdl}, Hdls X hs' l' → wHds X.K Wo D l' cls d σ1 H1 → wpAny (model X.prog X.w) X.A (handleBy (.ref a) X.env hs') (SP X pins D) X.xe { st with heap := h3 } := by
      intro hs' l' hk
      induction hk with
      | nil =>
        intro wo
        refine wpAny_handleBy_nil ?_
        obtain ⟨_, _, _, oe, vs, T, oT, ts', he, hz, hd, h1, hr⟩ := id fl3
        have go : wpAny (model X.prog X.w) X.A (setFlight (.ref a) X.env.frame) (fun _ s4 => wpAny (model X.prog X.w) X.A (throw (.ref a) : Sem Flow) (SP X pins D) X.xe s4) X.xe { st with heap := h3 } := by
          rw [hfr]
          exact HandSPX.setFlight_upZ fl3 fun h4 hh4 up4 => wpAny_throw (tk _ _ ⟨a, B, sI, pins, σ1, H1, cls, d, rfl, J1, nb, (up.trans up3).trans up4, .inr (.inr (by rw [hstk]; exact hh4)), na, os, ag, wo⟩)
        unfold PySem.passOn
        refine wpAny_bind (wpAny_field he hd h1 ?_)
        rw [if_neg (show ¬ ((Value.ref T == Value.none) = true) from by simp)]
        first
          | exact wpAny_bind go
          | exact wpAny_bind (wpAny_pure (wpAny_bind go))
      | @bare x c ts s0 ss p1 p2 hs2 l2 hc su r ih =>
        rintro ⟨b, hb1, yes, no⟩
        refine wpAny_handleBy_cons (codeAny_handlers_test (name hc ((PySem.W.exm_one (M := model X.prog X.w) J3.kIn ty3 hb1).here ?_))) (by intro q; cases q)
        cases b with
        | false => exact ih (no rfl)
        | true =>
          refine codeAny_handlers_suite (HandSPX.lands_againZ fl3 fun h4 fl4 up4 => ?_)
          obtain ⟨oe4, z4, f4, S4⟩ := land fl4 up4
          refine wpAny_mono ((su a oe4 cls d (X.pn ++ pins) z4 f4).run [] _ _ H1 _ S4 (yes rfl a na)) (fun f s6 hsp => ?_) (fun _ _ z => False.elim z)
          cases f with
          | ret u => exact let ⟨v6, _, _, S6, r6, q6⟩ := hsp; ⟨v6, _, _, S6.unsuite ok, r6, q6⟩
          | next => exact let ⟨_, _, S6, q6⟩ := hsp; ⟨_, _, S6.unsuite ok, q6⟩
          | brk => exact let ⟨_, _, S6, q6⟩ := hsp; ⟨_, _, S6.unsuite ok, q6⟩
          | cont => exact let ⟨_, _, S6, q6⟩ := hsp; ⟨_, _, S6.unsuite ok, q6⟩
      | @as_ x n i c ts s0 ss p1 p2 hs2 l2 hc hi hl su r ih =>
        rintro ⟨b, hb1, yes, no⟩
        refine wpAny_handleBy_cons (codeAny_handlers_test (name hc ((PySem.W.exm_one (M := model X.prog X.w) J3.kIn ty3 hb1).here ?_))) (by intro q; cases q)
        cases b with
        | false => exact ih (no rfl)
        | true =>
          refine codeAny_handlers_suite_as (HandSPX.lands_againZ fl3 fun h4 fl4 up4 => ?_)
          obtain ⟨oe4, z4, f4, S4⟩ := land fl4 up4
          refine store_ok (X := X.suite a ((a, oe4) :: (X.pn ++ pins))) (v := .ref a) S4 nd hi (.inl hl) rfl (fun s5 S5 => ?_) (.inr hl)
          refine wpAny_mono ((su a oe4 cls d (X.pn ++ pins) z4 f4).run [] s5 _ H1 _ S5 (yes rfl a na)) (fun f s6 hsp => ?_) (fun _ _ z => False.elim z)
          have done : ∀ {σ6 : L2.St} {H6 : Hp} {Q : Shared → Prop}, Inv (X.suite a ((a, oe4) :: (X.pn ++ pins))) [] σ6 H6 s6 → (∀ s7, Inv X pins (σ6.set i none) H6 s7 → Q s7) →
              wpAny (model X.prog X.w) X.A (do bindName X.env n .none; unbindBehindTheSuite X.env n p2) (fun _ s7 => Q s7) X.xe s6 := fun {σ6 H6 Q} S6 hq => gone_ok (S6.unsuite ok) nd hi hl hq
          cases f with
          | ret u => exact let ⟨v6, _, _, S6, r6, q6⟩ := hsp; done S6 fun s7 J7 => ⟨v6, _, _, J7, r6, q6⟩
          | next => exact let ⟨_, _, S6, q6⟩ := hsp; done S6 fun s7 J7 => ⟨_, _, J7, q6⟩
          | brk => exact let ⟨_, _, S6, q6⟩ := hsp; done S6 fun s7 J7 => ⟨_, _, J7, q6⟩
          | cont => exact let ⟨_, _, S6, q6⟩ := hsp; done S6 fun s7 J7 => ⟨_, _, J7, q6⟩
    exact all hh want
  refine wpAny_mono ((hb _ _ _ tk2 PassesOwn.looking).run [] s σ H D (I.toTry _) hq) (fun f s1 hsp => ?_) (fun e s1 he => he)
  have z := sp_back (pins := pins) ok hsp
  cases f with
  | next => exact let ⟨σ1, H1, J, q⟩ := z; wpAny_execs_nil ⟨σ1, H1, J, q⟩
  | brk => exact z
  | cont => exact z
  | ret u => exact z
end
end Dy
end

section
set_option linter.all false
set_option maxRecDepth 100000
set_option maxHeartbeats 4000000
set_option Elab.async false
/-! Dy: exceptions of own classes over ValueError and KeyError made, by an __init__ that is walked. -/
namespace Dy
open PySem PySem.Spec PyProof.Rows L2
/-- classes of the text, then the tail tl -/
def refsTo (tl : List Value) : List Value → Bool
  | .ref _ :: r => refsTo tl r
  | l => decide (l = tl)
theorem refsTo_inv {tl : List Value} : ∀ {l : List Value}, refsTo tl l = true → ∃ as : List Addr, l = as.map Value.ref ++ tl
  | [], e => ⟨[], of_decide_eq_true e⟩
  | .ref a :: r, e => by
    obtain ⟨as, h⟩ := refsTo_inv (l := r) e
    exact ⟨a :: as, by rw [h]; rfl⟩
  | .none :: _, e => ⟨[], of_decide_eq_true e⟩
  | .ellipsis :: _, e => ⟨[], of_decide_eq_true e⟩
  | .notImplemented :: _, e => ⟨[], of_decide_eq_true e⟩
  | .bool _ :: _, e => ⟨[], of_decide_eq_true e⟩
  | .int _ _ :: _, e => ⟨[], of_decide_eq_true e⟩
  | .float _ _ :: _, e => ⟨[], of_decide_eq_true e⟩
  | .str _ _ :: _, e => ⟨[], of_decide_eq_true e⟩
  | .bytes _ _ :: _, e => ⟨[], of_decide_eq_true e⟩
  | .type _ :: _, e => ⟨[], of_decide_eq_true e⟩
  | .builtin _ :: _, e => ⟨[], of_decide_eq_true e⟩
theorem refs_has {tl : List Value} {T : String} : ∀ as : List Addr, (as.map Value.ref ++ tl).contains (.type T) = tl.contains (.type T)
  | [] => rfl
  | a :: as => by rw [List.map_cons, List.cons_append, List.contains_cons, refs_has as]; rfl
theorem refs_pass {tl : List Value} (h : ∀ self, refuseLoop self "__setattr__" tl = pure ()) (self : Value) : ∀ as : List Addr, refuseLoop self "__setattr__" (as.map Value.ref ++ tl) = pure ()
  | [] => h self
  | a :: as => by
    rw [List.map_cons, List.cons_append, refuseLoop_ref]
    exact refs_pass h self as
abbrev tlV : List Value := [.type "ValueError", .type "Exception", .type "BaseException", .type "object"]
abbrev tlK : List Value := [.type "KeyError", .type "LookupError", .type "Exception", .type "BaseException", .type "object"]
/-- what is known of a class by its mro -/
structure EBase (nid iid : String) (bm : List Value) : Prop where
  nw : ∃ B iB bmB, ExcBaseFacts B nid iB bmB ∧ bm.contains (.type B) = true
  cA : bm.contains (.type "AttributeError") = false
  cN : bm.contains (.type "NameError") = false
  ps : ∀ self, refuseLoop self "__setattr__" bm = pure ()
  ne : bm.isEmpty = false
  ob : bm.contains (.type "object") = true
  it : ∃ Bi, plainId iid = true ∧ entryFor table iid = some Builtin.«BaseException.__init__» ∧ builtinKind iid = some .slot ∧ splitId iid = some (Bi, "__init__") ∧
    Manifest.signature? iid = some ⟨.positional, "*", Bi, .self, [⟨"args", .varPos, false⟩]⟩ ∧ (Bi != "*") = true ∧ bm.contains (.type Bi) = true
theorem ebase_V {bm : List Value} (h : refsTo tlV bm = true) : EBase "ValueError.__new__" "ValueError.__init__" bm := by
  obtain ⟨as, rfl⟩ := refsTo_inv h
  have F := PySem.F.excBase_ValueError
  refine ⟨⟨_, _, _, F, ?_⟩, ?_, ?_, fun self => refs_pass (fun self => PySem.F.store_ValueError.passes self) self as, ?_, ?_, ⟨"ValueError", F.init.plain, F.initEntry, F.initKind, F.initSplit, F.initRow, F.noStar, ?_⟩⟩
  all_goals first
    | (rw [refs_has]; decide +kernel)
    | (cases as <;> rfl)
theorem pass_K (self : Value) : refuseLoop self "__setattr__" tlK = pure () := by kernel_rfl
theorem initK_plain : plainId "KeyError.__init__" = true := by decide +kernel
theorem initK_entry : entryFor table "KeyError.__init__" = some Builtin.«BaseException.__init__» :=
  entryFor_alias (id' := "BaseException.__init__") (by rw [fastTable_eq_tree]; kernel_rfl) (by first | rfl | decide +kernel) (by decide +kernel) (by rw [fastTable_eq_tree]; kernel_rfl)
theorem ebase_K {bm : List Value} (h : refsTo tlK bm = true) : EBase "LookupError.__new__" "KeyError.__init__" bm := by
  obtain ⟨as, rfl⟩ := refsTo_inv h
  refine ⟨⟨_, _, _, PySem.F.excBase_LookupError, ?_⟩, ?_, ?_, fun self => refs_pass pass_K self as, ?_, ?_, ⟨"KeyError", initK_plain, initK_entry, by kernel_rfl, by kernel_rfl, by kernel_rfl, by decide +kernel, ?_⟩⟩
  all_goals first
    | (rw [refs_has]; decide +kernel)
    | (cases as <;> rfl)
section
variable {prog : Program} {w : World} {A : Around} {E : Value → Shared → Prop} {R : Result → Shared → Prop} {hp : Heap} {gs : Array GenState} {dr : Drawn} {tk : Nat} {os : OsState}
variable {nm qn : Str} {C N : Addr} {bs bm : List Value} {sn : List Str} {sub : List Value} {ab : Bool} {col : Option Bool} {dd : Option Addr} {k0 k1 k2 k3 k5 : Option Value} {nid iid : String}
theorem mk_check (T : EBase nid iid bm) {rest : List Value} {Q : Unit → Shared → Prop} (hC : hp.get? C = some (excClassObj nm qn C N bs bm true sn sub ab col dd k0 k1 k2 k3 k5 nid)) (hq : Q () ⟨hp, gs, dr, tk, os⟩) :
    wpAny (model prog w) A (checkBuiltinCall nid ⟨.ref C :: rest, []⟩) Q E ⟨hp, gs, dr, tk, os⟩ := by
  obtain ⟨B, iB, bmB, F, cB⟩ := T.nw
  have c1 : (Value.ref C :: bm).contains (.type B) = true := by rw [List.contains_cons, cB, Bool.or_true]
  have c2 := F.noStar
  simp only [checkBuiltinCall, F.newKind, F.newSplit, F.newRow]
  repeat (first | refine wpAny_loadPart_at hC ?_ | (refine wpAny_isSubtype_exc hC ?_; rw [c1]) | refine wpAny_staticBase_exc hC ?_ | refine wpAny_madeBy_exc hC ?_ | simp only [bne_self_eq_false, Bool.false_eq_true, if_false] | wp_step)
  exact hq
theorem mk_laid (T : EBase nid iid bm) {rest : List Value} (hC : hp.get? C = some (excClassObj nm qn C N bs bm true sn sub ab col dd k0 k1 k2 k3 k5 nid)) (hz : rest.length ≤ sizeLine)
    (hq : R (.ok (.ret (.ref (hp.objs.size + 1)))) ⟨(hp.push (PySem.W.kdv_tup rest)).push (HandSPX.excO C hp.objs.size), gs, dr, tk, os⟩) : codeAny (model prog w) A (.builtin nid ⟨.ref C :: rest, []⟩) R ⟨hp, gs, dr, tk, os⟩ := by
  obtain ⟨B, iB, bmB, F, cB⟩ := T.nw
  have c0 := F.ends
  have c1 : (Value.ref C :: bm).contains (.type B) = true := by rw [List.contains_cons, cB, Bool.or_true]
  have c2 : (Value.ref C :: bm).contains (.type "AttributeError") = false := by rw [List.contains_cons, T.cA]; rfl
  have c3 : (Value.ref C :: bm).contains (.type "NameError") = false := by rw [List.contains_cons, T.cN]; rfl
  refine codeAny_builtinAt F.entry ?_
  unfold Builtin.«BaseException.__new__»
  refine PySem.wpAt_bind ?_
  show PySem.wpAt _ _ _ (stack >>= _) _ _ _
  refine PySem.wpAt_bind (PySem.wpAt_stack fun _ _ => PySem.wpAt_of_wpAny ?_)
  wp_walk
  refine PySem.wpAt_of_wpAny ?_
  rw [F.owner]
  repeat (first | with_reducible refine wpAny_madeHere_exc F.canon hC ?_ | with_reducible refine wpAny_loadPart_at hC ?_ | (with_reducible refine wpAny_isSubtype_exc hC ?_; first | rw [c1] | rw [c2] | rw [c3]) | wp_step)
  show R _ _
  rw [Heap.size_push]
  exact hq
theorem mk_type (T : EBase nid iid bm) {rest : List Value} {fI : Addr} {Q : Fin → Shared → Prop} (hC : hp.get? C = some (excClassObj nm qn C N bs bm true sn sub ab col dd k0 k1 k2 k3 k5 nid))
    (hi : PySem.W.Looks (model prog w) hp (typeLookup (.ref C) "__init__") (some (.ref fI))) (hb : ∀ self, PySem.W.Looks (model prog w) hp (bindSpecial (.ref fI) self) (.ref fI, [self])) (hz : rest.length ≤ sizeLine)
    (hq : codeAny (model prog w) A (.call (.ref fI) ⟨.ref (hp.objs.size + 1) :: rest, []⟩) (fun r s' => match r with | .ok (.ret v) => v = .none ∧ Q (.done (.ret (.ref (hp.objs.size + 1)))) s' | .ok _ => False | .error e => E e s')
      ⟨(hp.push (PySem.W.kdv_tup rest)).push (HandSPX.excO C hp.objs.size), gs, dr, tk, os⟩) : wpAny (model prog w) A (Builtin.«type.__call__» ⟨.ref C :: rest, []⟩) Q E ⟨hp, gs, dr, tk, os⟩ := by
  obtain ⟨B, iB, bmB, F, cB⟩ := T.nw
  repeat (first | with_reducible refine wpAny_loadPart_at hC ?_ | with_reducible refine wpAny_madeBy_exc hC ?_ | wp_step)
  refine codeAny_call_builtin_code (Code.quiet_builtin _ F.quiet) (mk_check T hC (mk_laid T hC hz ?_))
  show wpAny _ _ _ _ _ _
  have kp : ∀ b o, hp.get? b = some o → ((hp.push (PySem.W.kdv_tup rest)).push (HandSPX.excO C hp.objs.size)).get? b = some o := fun _ _ e => Heap.get?_push_of_some _ (Heap.get?_push_of_some _ e)
  have hC1 := kp _ _ hC
  have he : ((hp.push (PySem.W.kdv_tup rest)).push (HandSPX.excO C hp.objs.size)).get? (hp.objs.size + 1) = some (HandSPX.excO C hp.objs.size) := by heap_get
  have c1 : (Value.ref C :: bm).contains (.ref C) = true := by simp
  have i1 := hi.keeps kp
  have b1 := (hb (.ref (hp.objs.size + 1))).keeps kp
  unfold isInstance
  repeat (first | with_reducible refine wpAny_loadPart_at he ?_ | (with_reducible refine wpAny_isSubtype_exc hC1 ?_; rw [c1]) | wp_step)
  show wpAny _ _ (typeLookup (.ref C) _) _ _ _
  refine i1.at (wpAny_holding (wpAny_bind (b1.at (wpAny_bind (wpAny_call (codeAny_mono hq fun r s' z => ?_))))))
  rcases r with e | (v | _ | _ | _) <;> first | exact z | exact z.elim | skip
  obtain ⟨rfl, z⟩ := z
  first
    | exact wpAny_pure (wpAny_pure z)
    | (wp_walk; exact z)
theorem mk_call (T : EBase nid iid bm) {rest : List Value} {fI : Addr} (hC : hp.get? C = some (excClassObj nm qn C N bs bm true sn sub ab col dd k0 k1 k2 k3 k5 nid))
    (hi : PySem.W.Looks (model prog w) hp (typeLookup (.ref C) "__init__") (some (.ref fI))) (hb : ∀ self, PySem.W.Looks (model prog w) hp (bindSpecial (.ref fI) self) (.ref fI, [self])) (hz : rest.length ≤ sizeLine)
    (hq : codeAny (model prog w) (A.under (.builtin "type.__call__" ⟨.ref C :: rest, []⟩)) (.call (.ref fI) ⟨.ref (hp.objs.size + 1) :: rest, []⟩) (PySem.W.InitBack (hp.objs.size + 1) R)
      ⟨(hp.push (PySem.W.kdv_tup rest)).push (HandSPX.excO C hp.objs.size), gs, dr, tk, os⟩) : codeAny (model prog w) A (.call (.ref C) ⟨rest, []⟩) R ⟨hp, gs, dr, tk, os⟩ := by
  have x1 := tc_lookup
  have x2 := tc_bind (.ref C)
  have ty : (⟨hp, gs, dr, tk, os⟩ : Shared).TypeIs (.ref C) "type" := ⟨_, hC, rfl⟩
  refine codeAny_of_tree ?_
  show wpAny _ _ (callAny (.ref C) _) _ _ _
  repeat (any_goals (first | assumption | with_reducible refine wpAny_loadPart_at hC ?_ | wp_step))
  refine ⟨rfl, codeAny_call_builtin_at (Code.quiet_builtin _ (by decide +kernel)) entry_typeCall (wpAny_check_type_call_sub hC (mk_type T hC hi hb hz (codeAny_mono hq fun r s' z => ?_)))⟩
  rcases r with e | (v | _ | _ | _) <;> exact z
/-- B.__init__(e, ..) -/
theorem mk_base (T : EBase nid iid bm) {e t0 : Addr} {rest : List Value} (hC : hp.get? C = some (excClassObj nm qn C N bs bm true sn sub ab col dd k0 k1 k2 k3 k5 nid)) (he : hp.get? e = some (HandSPX.excO C t0)) (hz : rest.length ≤ sizeLine)
    (hq : ∀ h' t1, (∀ b o, b ≠ e → hp.get? b = some o → h'.get? b = some o) → h'.get? e = some (HandSPX.excO C t1) → R (.ok (.ret .none)) ⟨h', gs, dr, tk, os⟩) : codeAny (model prog w) A (.call (.builtin iid) ⟨.ref e :: rest, []⟩) R ⟨hp, gs, dr, tk, os⟩ := by
  obtain ⟨Bi, i1, i2, i3, i4, i5, i6, i7⟩ := T.it
  have c1 : (Value.ref C :: bm).contains (.type Bi) = true := by rw [List.contains_cons, i7, Bool.or_true]
  refine codeAny_call_builtin i1 i2 ?_
  simp only [checkBuiltinCall, i3, i4, i5]
  repeat (first | (with_reducible refine wpAny_loadPart_at he ?_) | with_reducible refine wpAny_loadPart_at hC ?_ | (with_reducible refine wpAny_isSubtype_exc hC ?_; rw [c1]) | wp_step)
  refine wpAny_onRaise ?_
  rw [show ∀ (a b : String) (n : Nat), Bind.check ⟨.positional, "*", Bi, .self, [⟨"args", .varPos, false⟩]⟩ a b n (List.map (fun x => x.fst) ({ pos := Value.ref e :: rest } : Args).kw) = pure () from fun _ _ _ => check_star_args _ _ _ _ _ _]
  refine wpAny_pure ?_
  wp_walk
  refine hq _ hp.objs.size (fun b o hb ho => ?_) ?_
  · exact (Heap.get?_update_other _ _ (Ne.symm hb)).trans (Heap.get?_push_of_some _ ho)
  · rw [Heap.get?_update_self _ (Heap.get?_push_of_some _ he) rfl]
    rfl
end
end Dy
end

section
set_option linter.all false
set_option maxRecDepth 100000
set_option maxHeartbeats 4000000
set_option Elab.async false
/-! Dy: self.f = v on an exception that is being made; __init__ as a whole. -/
namespace Dy
open PySem PySem.Spec PyProof.Rows L2
section
open Builtin Builtin.ObjectAttr
variable {prog : Program} {w : World} {A : Around} {E : Value → Shared → Prop} {R : Result → Shared → Prop} {hp : Heap} {gs : Array GenState} {dr : Drawn} {t : Nat} {os : OsState} {K : PySem.W.Frag} {name : Str} {tk : Tok} {v : Value} {x C : Addr} {fv : Array Value} {cd : ClassData}
theorem mk_first (kin : K.In hp) (hx : hp.get? x = some { cls := .ref C, data := .fields fv }) (hcd : PySem.W.clsIn K C = some cd) (ps : ∀ self, refuseLoop self "__setattr__" cd.mro = pure ()) (ne : cd.mro.isEmpty = false) (ob : cd.mro.contains (.type "object") = true)
    (hh : cd.hasDict = true) (na : PySem.W.findIn K (.ref C) name = some none)
    (hq : ∀ h' tk' dx, (∀ b o, b ≠ x → hp.get? b = some o → h'.get? b = some o) → hp.objs.size ≤ dx → dx ≠ x → h'.get? x = some { cls := .ref C, dict := some dx, data := .fields fv } → h'.Ns1 dx (fun y => if y = name then some v else none) → R (.ok (.ret .none)) ⟨h', gs, dr, tk', os⟩) :
    codeAny (model prog w) A (.call (.builtin "object.__setattr__") ⟨[.ref x, .str name tk, v], []⟩) R ⟨hp, gs, dr, t, os⟩ := by
  have J : PySem.W.InstAt hp x { cls := .ref C, data := .fields fv } C none := ⟨hx, rfl, rfl, trivial⟩
  have SF := F.store_object
  have apart : x ≠ hp.objs.size := Nat.ne_of_lt (Heap.lt_size hx)
  have isx : PySem.W.Looks (model prog w) hp (isInstance (.ref x) (.type "object")) true := J.type.andThen (PySem.W.looks_mroIn kin (by unfold PySem.W.mroIn; rw [hcd, Option.bind_some, if_neg (by rw [ne]; decide), ob]))
  have l1 : PySem.W.Looks (model prog w) hp (mroOf (.ref C)) cd.mro := (PySem.W.looks_clsIn kin hcd).andThen .now
  have l2 : PySem.W.Looks (model prog w) hp (storeTaker? none) none := .now
  have l3 : PySem.W.Looks (model prog w) hp (classData C) cd := PySem.W.looks_clsIn kin hcd
  refine codeAny_call_builtin SF.slot.plain SF.entry (@PySem.W.check_slot (model prog w) _ _ ⟨hp, gs, dr, t, os⟩ "object.__setattr__" "object" "__setattr__" (.ref x) [.str name tk, v] [] _ SF.kind SF.split isx (SF.args (.ref x) (.str name tk) v) ?_)
  rw [PySem.W.osa_eq, refuse_eq]
  refine wpAny_bind (wpAny_bind (J.type.at (wpAny_bind (l1.at ?_))))
  rw [ps]
  refine wpAny_pure (wpAny_bind (J.type.at (wpAny_bind ((PySem.W.looks_findIn kin na).at (wpAny_bind (l2.at ?_))))))
  show wpAny _ _ (storeInOwnDict (.ref x) (.ref C) (.str name tk) name v false) _ _ _
  obtain ⟨nm, bs, mro, ns, qn, hd, sn, sb, ab, col, del⟩ := cd
  dsimp only at hh
  subst hh
  unfold storeInOwnDict ownDictForStores
  repeat (first | with_reducible refine HandSPX.store_in_new ?_ ?_ | with_reducible refine wpAny_loadPart_at hx ?_ | with_reducible refine l3.at ?_ | wp_step)
  · exact ⟨_, #[], _, (Heap.get?_update_ne _ _ _ _ apart.symm).trans (Heap.get?_push_at rfl rfl), rfl, fun e he => absurd he (by simp), fun _ => rfl⟩
  · intro h' tk' hn' hs
    have hx1 : (hp.push { cls := .type "dict", data := .dict #[] }).get? x = some { cls := .ref C, data := .fields fv } := Heap.get?_push_of_some _ hx
    exact hq h' tk' hp.objs.size (fun b o hb ho => (hs.2 b (Nat.ne_of_lt (Heap.lt_size ho))).trans ((Heap.get?_update_ne _ _ _ _ hb).trans (Heap.get?_push_of_some _ ho))) (Nat.le_refl _) apart.symm ((hs.2 x apart).trans (Heap.get?_update_self _ hx1 rfl)) hn'
theorem mk_next {dx : Addr} {m0 : Str → Option Value} {nl : List Str} (kin : K.In hp) (hx : hp.get? x = some { cls := .ref C, dict := some dx, data := .fields fv }) (hns : hp.Ns1 dx m0) (hw : Within m0 nl) (hz : nl.length ≤ 1000) (hcd : PySem.W.clsIn K C = some cd)
    (ps : ∀ self, refuseLoop self "__setattr__" cd.mro = pure ()) (ne : cd.mro.isEmpty = false) (ob : cd.mro.contains (.type "object") = true) (hh : cd.hasDict = true) (na : PySem.W.findIn K (.ref C) name = some none)
    (hq : ∀ h' tk', (∀ b o, b ≠ dx → hp.get? b = some o → h'.get? b = some o) → h'.Ns1 dx (fun y => if y = name then some v else m0 y) → R (.ok (.ret .none)) ⟨h', gs, dr, tk', os⟩) :
    codeAny (model prog w) A (.call (.builtin "object.__setattr__") ⟨[.ref x, .str name tk, v], []⟩) R ⟨hp, gs, dr, t, os⟩ := by
  obtain ⟨oD, esD, epD, hoD, hdD, _⟩ := hns.count hw
  have J : PySem.W.InstAt hp x { cls := .ref C, dict := some dx, data := .fields fv } C (some oD) := ⟨hx, rfl, rfl, hoD⟩
  have SF := F.store_object
  have isx : PySem.W.Looks (model prog w) hp (isInstance (.ref x) (.type "object")) true := J.type.andThen (PySem.W.looks_mroIn kin (by unfold PySem.W.mroIn; rw [hcd, Option.bind_some, if_neg (by rw [ne]; decide), ob]))
  have l1 : PySem.W.Looks (model prog w) hp (mroOf (.ref C)) cd.mro := (PySem.W.looks_clsIn kin hcd).andThen .now
  have l2 : PySem.W.Looks (model prog w) hp (storeTaker? none) none := .now
  have l3 : PySem.W.Looks (model prog w) hp (classData C) cd := PySem.W.looks_clsIn kin hcd
  refine codeAny_call_builtin SF.slot.plain SF.entry (@PySem.W.check_slot (model prog w) _ _ ⟨hp, gs, dr, t, os⟩ "object.__setattr__" "object" "__setattr__" (.ref x) [.str name tk, v] [] _ SF.kind SF.split isx (SF.args (.ref x) (.str name tk) v) ?_)
  rw [PySem.W.osa_eq, refuse_eq]
  refine wpAny_bind (wpAny_bind (J.type.at (wpAny_bind (l1.at ?_))))
  rw [ps]
  refine wpAny_pure (wpAny_bind (J.type.at (wpAny_bind ((PySem.W.looks_findIn kin na).at (wpAny_bind (l2.at ?_))))))
  show wpAny _ _ (storeInOwnDict (.ref x) (.ref C) (.str name tk) name v false) _ _ _
  obtain ⟨nm, bs, mro, ns, qn, hd, sn, sb, ab, col, del⟩ := cd
  dsimp only at hh
  subst hh
  unfold storeInOwnDict ownDictForStores
  repeat (first | with_reducible refine PySem.OEX.store_in_old hns hw hz ?_ | with_reducible refine wpAny_loadPart_at hx ?_ | with_reducible refine l3.at ?_ | wp_step)
  intro h' tk' hn' hs
  exact hq h' tk' (fun b o hb ho => (hs.2 b hb).trans ho) hn'
end
/-- what the written part says of a class whose instances are made -/
structure MkC (K : PySem.W.Frag) (C : Addr) (iid : String) : Prop where
  cls : ∃ nm q N bs bm sn sub ab col dd k0 k1 k2 k3 k5 nid, K.lookup C = some (excClassObj nm q C N bs bm true sn sub ab col dd k0 k1 k2 k3 k5 nid) ∧ EBase nid iid bm
  sa : PySem.W.findIn K (.ref C) "__setattr__" = some (some (.builtin "object.__setattr__"))
  exC : PySem.W.subIn K (.ref C) (.type "BaseException") = some true
  tyC : PySem.W.typeIn K (.ref C) = some (.type "type")
  kC : PySem.W.keepIn K (.ref C) = true
section
variable {X : Cx} {pins : List (Addr × Obj)} {σ : L2.St} {H : Hp} {s : Shared} {a C dx : Addr} {f : Str} {y : V} {u : Value} {fs : List (Str × V)} {Q : Unit → Shared → Prop} {E : Value → Shared → Prop} {A : Around} {iid : String}
theorem MkC.data (T : MkC X.K C iid) : ∃ cd, PySem.W.clsIn X.K C = some cd ∧ (∀ self, refuseLoop self "__setattr__" cd.mro = pure ()) ∧ cd.mro.isEmpty = false ∧ cd.mro.contains (.type "object") = true ∧ cd.hasDict = true := by
  obtain ⟨nm, q, N, bs, bm, sn, sub, ab, col, dd, k0, k1, k2, k3, k5, nid, hC, hbm⟩ := T.cls
  refine ⟨{ name := nm, bases := bs, mro := .ref C :: bm, ns := N, qualname := q, hasDict := true, slotNames := sn, subclasses := sub, abstract := ab, collection := col, hasDel := false }, by unfold PySem.W.clsIn; rw [hC] <;> rfl, fun self => ?_, rfl, ?_, rfl⟩
  · show refuseLoop self "__setattr__" (.ref C :: bm) = _
    rw [refuseLoop_ref]; exact hbm.ps self
  · show (Value.ref C :: bm).contains (.type "object") = true
    rw [List.contains_cons, hbm.ob, Bool.or_true]
/-- self.f = y, the first one -/
theorem st_first (T : MkC X.K C iid) (I : Inv X pins σ H s) (e : H a = some (exo a C none)) (na : PySem.W.findIn X.K (.ref C) f = some none) (ry : RelV y u)
    (h : ∀ dx s', H dx = none → dx ≠ a → Inv X pins σ (upd (upd H dx (exd dx [(f, y)])) a (exo a C (some dx))) s' → Q () s') : wpAny (model X.prog X.w) A (setAttr (.ref a) f u) Q E s := by
  obtain ⟨cd, c1, c2, c3, c4, c5⟩ := T.data
  obtain ⟨t1, ho⟩ := exo_at I.hok e
  obtain ⟨hp, g, d, t, os⟩ := s
  refine PySem.W.set_plain I.kIn (ox := { cls := .ref C, dict := none, data := .fields #[.ref t1, .none, .none, .none, .bool false, .none] }) (od := none) ⟨ho, rfl, rfl, trivial⟩ T.sa (mk_first I.kIn ho c1 c2 c3 c4 c5 na fun h' tk' dx k dn dne hx hn => ?_)
  have hnd : H dx = none := I.hok.fresh dn
  have nd : ∀ {b : Addr} {o : Obj}, hp.get? b = some o → b ≠ dx := fun {b o} q => Nat.ne_of_lt (Nat.lt_of_lt_of_le (Heap.lt_size q) dn)
  have no : ∀ {b : Addr}, H b = none → b ≠ a := fun {b} n z => by
    rw [z, e] at n
    cases n
  have U : Un X.fs [] H (upd (upd H dx (exd dx [(f, y)])) a (exo a C (some dx))) hp h' := {
    keep := fun b o q n _ _ => k b o (no n) q
    slot := fun b o q n _ _ => ⟨o.slots, k b o (no n) q⟩
    free := fun b o q n _ => by rw [upd_ne (no n), upd_ne (nd q)]; exact n
    there := fun b o q _ => by
      by_cases hb : b = a
      · exact ⟨_, hb ▸ hx⟩
      · exact ⟨o, k b o hb q⟩
    tups := fun b xs q => by rw [upd_ne (at_ne e q exo_tup), upd_ne (ne_of_none q hnd)]; exact q
    frzs := fun b o v q => by rw [upd_ne (at_ne e q exo_frz), upd_ne (ne_of_none q hnd)]; exact q
    tbls := fun b ps q => ⟨#[], by rw [upd_ne (at_ne e q exo_tbl), upd_ne (ne_of_none q hnd), q]; simp⟩ }
  refine h dx _ hnd dne (I.un (t' := tk') U fun b o q => ?_)
  by_cases hb : b = a
  · subst hb
    rw [upd_same] at q
    cases q
    exact exo_ok hx
  rw [upd_ne hb] at q
  by_cases hd : b = dx
  · subst hd
    rw [upd_same] at q
    cases q
    exact exd_ok hn (relO_put (fs := []) ry fun _ => True.intro)
  rw [upd_ne hd] at q
  refine (I.hok b o q).stay (fun c v hc z => k c v (hc.elim (fun e2 => e2 ▸ hb) fun hc => at_ne e hc exo_own) z) (fun c hc => ?_) fun c xs hc => ?_
  · rw [upd_ne (at_ne e hc exo_own), upd_ne (ne_of_none hc hnd)]; exact hc
  · rw [upd_ne (at_ne e hc exo_tup), upd_ne (ne_of_none hc hnd)]; exact hc
/-- self.f = y, a further one -/
theorem st_next (T : MkC X.K C iid) (I : Inv X pins σ H s) (e : H a = some (exo a C (some dx))) (ed : H dx = some (exd dx fs)) (hl : fs.length ≤ 900) (na : PySem.W.findIn X.K (.ref C) f = some none) (ry : RelV y u)
    (h : ∀ s', Inv X pins σ (upd H dx (exd dx ((f, y) :: fs))) s' → Q () s') : wpAny (model X.prog X.w) A (setAttr (.ref a) f u) Q E s := by
  obtain ⟨cd, c1, c2, c3, c4, c5⟩ := T.data
  obtain ⟨t1, ho⟩ := exo_at I.hok e
  obtain ⟨mA, hns, rel⟩ := exd_at I.hok ed
  have hw := within_of rel
  obtain ⟨hp, g, d, t, os⟩ := s
  obtain ⟨oD, _, _, hoD, _, _⟩ := hns.count hw
  refine PySem.W.set_plain I.kIn (ox := { cls := .ref C, dict := some dx, data := .fields #[.ref t1, .none, .none, .none, .bool false, .none] }) (od := some oD) ⟨ho, rfl, rfl, hoD⟩ T.sa
    (mk_next I.kIn ho hns hw (by rw [List.length_map]; omega) c1 c2 c3 c4 c5 na fun h' tk' k hn => ?_)
  have hd : ∃ o, h'.get? dx = some o := let ⟨o, _, _, e', _⟩ := hn; ⟨o, e'⟩
  exact h _ (I.write (t' := tk') (x := dx) (e := dx) (o := exd dx ((f, y) :: fs)) (by rw [ed]; exact True.intro) (.inl rfl) k hd (exd_ok hn (relO_put ry rel)))
/-- B.__init__(self, ..) -/
theorem st_base {us : List Value} {Q : Value → Shared → Prop} (T : MkC X.K C iid) (I : Inv X pins σ H s) (e : H a = some (exo a C none)) (hl : us.length ≤ sizeLine) (h : ∀ s', Inv X pins σ H s' → Q .none s') :
    wpAny (model X.prog X.w) A (call (.builtin iid) (.ref a :: us)) Q E s := by
  obtain ⟨nm, q, N, bs, bm, sn, sub, ab, col, dd, k0, k1, k2, k3, k5, nid, hC, hbm⟩ := T.cls
  obtain ⟨t1, ho⟩ := exo_at I.hok e
  obtain ⟨hp, g, d, t, os⟩ := s
  refine wpAny_call (mk_base hbm (I.kIn _ _ hC) ho hl fun h' t2 k hx => ?_)
  have J := I.write (t' := t) (x := a) (e := a) (o := exo a C none) (by rw [e]; exact True.intro) (.inl rfl) k ⟨_, hx⟩ (exo_ok hx)
  have eu : upd H a (exo a C none) = H := funext fun b => by
    by_cases hb : b = a
    · rw [hb, upd_same, e]
    · rw [upd_ne hb]
  rw [eu] at J
  exact h _ J
end
end Dy
end

section
set_option linter.all false
set_option maxRecDepth 100000
set_option maxHeartbeats 4000000
set_option Elab.async false
namespace Dy
open PySem PySem.Spec PyProof.Rows L2
/-- B.__init__(self, ..): nothing of it is told -/
def tBI (K : PySem.W.Frag) (iid : String) (ta : TA) : TE := fun σ H Q => ta σ H fun vs H1 => ∃ (a C : Addr) (ws : List V), vs = .ref a :: ws ∧ ws.length ≤ 1000 ∧ MkC K C iid ∧ H1 a = some (exo a C none) ∧ Q .non H1
/-- self.f = e -/
def tSt (K : PySem.W.Frag) (iid : String) (f : Str) (to te : TE) : TS := fun D σ H => te σ H fun y H1 => to σ H1 fun x H2 => ∃ a C : Addr, x = .ref a ∧ MkC K C iid ∧ PySem.W.findIn K (.ref C) f = some none ∧
  ((H2 a = some (exo a C none) ∧ ∀ dx, H2 dx = none → dx ≠ a → D.nx σ (upd (upd H2 dx (exd dx [(f, y)])) a (exo a C (some dx)))) ∨
    ∃ (dx : Addr) (fs : List (Str × V)), H2 a = some (exo a C (some dx)) ∧ H2 dx = some (exd dx fs) ∧ fs.length ≤ 900 ∧ D.nx σ (upd H2 dx (exd dx ((f, y) :: fs))))
/-- o.m(..) on one line, few arguments -/
theorem meth_line {M : Model} {A : Around} {E : Value → Shared → Prop} {s : Shared} {env : Env} {o : Expr} {name : Str} {apos pos : Pos} {args : List Expr} {Q : Value → Shared → Prop} (hbase : attributeBase o name env (eval o env) = eval o env)
    (hfew : methodCallForm (args.length + ([] : List Keyword).length) (backTo pos (starEach args env)) (backToKw pos (keywordEach [] env)) = true) (hline : (apos.endLine == pos.line) = true)
    (h : wpAny M A (eval o env) (fun ov s1 => ∀ pl : Sem Bool, wpAny M A (getMethod ov name pl) (fun fx s2 => wpAny M A (callWith pos fx.1 fx.2 (backTo pos (starEach args env)) (backToKw pos (keywordEach [] env))) Q E s2) E s1) E s) :
    wpAny M A (eval (.Call (.Attribute o name apos) args [] pos) env) Q E s := by
  rw [arm_eval_Call, hbase]
  refine wpAny_bind (wpAny_mono h (fun ov s1 h1 => wpAny_bind (wpAny_standAt ?_)) fun _ _ e => e)
  have hp : methodCallPos true o env apos pos = pure pos := by unfold methodCallPos; simp [hline]
  unfold methodCall
  rw [hfew]
  refine wpAny_bind (wpAny_holding (wpAny_mono (h1 _) (fun fx s2 h2 => ?_) fun _ _ e => e))
  exact wpAny_bind (wpAny_of_eq hp h2)
section
variable {X : Cx} {o e : Expr} {es : List Expr} {to te : TE} {ta : TA} {f : Str} {p p' p1 p2 pos : Pos} {iid : String}
theorem bi_end {pins : List (Addr × Obj)} {s : Shared} {σ : L2.St} {H : Hp} {Q : VK} {env : Env} (he : starEach (e :: es) X.env = (false, eval e X.env) :: starEach es X.env) (hpl : (backTo pos (starEach es X.env)).any (·.1) = false)
    (ha : PA X (e :: es) ta) (I : Inv X pins σ H s) (h : tBI X.K iid ta σ H Q) : wpAny (model X.prog X.w) X.A (callWith pos (Value.builtin iid) [] (backTo pos (starEach (e :: es) X.env)) []) (EP X pins σ Q) X.xe s := by
  refine PyProof.Rows.callWith_method1 (thn (ha.run pos pins s σ H _ I h) fun us s1 ⟨vs, H1, I1, r1, a, C, ws, ev, hl, T, ea, q⟩ => ?_) he hpl
  subst ev
  cases r1 with
  | @cons _ u0 _ ur ra rw' =>
    obtain rfl : u0 = Value.ref a := ra
    exact st_base T I1 ea (by rw [← Paired.length rw', sizeLine_eq]; omega) fun s' J => ⟨.non, H1, J, rfl, q⟩
theorem pe_biT {T : String} (hg : Gl X (Str.ofString T)) (hm : X.mg (Str.ofString T) = none) (hb : bootBuiltins (Str.ofString T) = some (.type T)) (n1 : (Str.ofString T) ≠ "__name__") (n2 : (Str.ofString T == ("__debug__" : Str)) = false) (ty : typeOf (.type T) = pure (.type "type")) (ns : Manifest.isStub T = false)
    (vV : PySem.W.findCls X.K (.type T) (.type "type") "__init__" = some (.val (.builtin iid))) (hi : PySem.W.handedIn (.builtin iid) = true) (ha : PA X (e :: es) ta)
    (hbase : attributeBase (.Name (Str.ofString T) p1) "__init__" X.env (eval (.Name (Str.ofString T) p1) X.env) = eval (.Name (Str.ofString T) p1) X.env) (hline : (p2.endLine == pos.line) = true)
    (hfew : methodCallForm ((e :: es).length + ([] : List Keyword).length) (backTo pos (starEach (e :: es) X.env)) (backToKw pos (keywordEach [] X.env)) = true)
    (he : starEach (e :: es) X.env = (false, eval e X.env) :: starEach es X.env) (hpl : (backTo pos (starEach es X.env)).any (·.1) = false) :
    PE X (.Call (.Attribute (.Name (Str.ofString T) p1) "__init__" p2) (e :: es) [] pos) (tBI X.K iid ta) := by
  refine ⟨fun pins s σ H Q I h => ?_⟩
  refine meth_line hbase hfew hline (ld_blt I hg hm hb (fun pl => ?_) n1 n2)
  obtain ⟨m, fr⟩ := I.fr
  refine PySem.W.method_type fr I.ok.mod.kin ty ns vV hi ?_
  exact bi_end (env := X.env) he hpl ha (I.tok _) h
theorem pe_biC {D : Addr} {mc : Value} {x : Str} (hg : Gl X x) (hm : X.mg x = some (.ref D)) (n2 : (x == ("__debug__" : Str)) = false) (rd : ClX.CRead X.K D mc)
    (vV : PySem.W.findCls X.K (.ref D) mc "__init__" = some (.val (.builtin iid))) (hi : PySem.W.handedIn (.builtin iid) = true) (ha : PA X (e :: es) ta)
    (hbase : attributeBase (.Name x p1) "__init__" X.env (eval (.Name x p1) X.env) = eval (.Name x p1) X.env) (hline : (p2.endLine == pos.line) = true)
    (hfew : methodCallForm ((e :: es).length + ([] : List Keyword).length) (backTo pos (starEach (e :: es) X.env)) (backToKw pos (keywordEach [] X.env)) = true)
    (he : starEach (e :: es) X.env = (false, eval e X.env) :: starEach es X.env) (hpl : (backTo pos (starEach es X.env)).any (·.1) = false) :
    PE X (.Call (.Attribute (.Name x p1) "__init__" p2) (e :: es) [] pos) (tBI X.K iid ta) := by
  refine ⟨fun pins s σ H Q I h => ?_⟩
  refine meth_line hbase hfew hline (ld_glob I hg hm (fun pl => ?_) n2)
  refine PySem.W.method_cls I.kIn rd.ga (PySem.W.cls_value I.kIn rd.rd vV hi ?_)
  exact bi_end (env := X.env) he hpl ha (I.tok _) h
theorem ps_st (ho : PE X o to) (he : PE X e te) (hs : swapsWith e (some (.Attribute o f p')) pos.line X.env = pure false) : PS X (.Assign [.Attribute o f p'] e pos) (tSt X.K iid f to te) := by
  refine ⟨fun pins s σ H D I h => plainObj_wpAny_Assign_Attribute (thn (he.run pins s σ H _ I h) fun v s1 ⟨y, H1, I1, r1, q1⟩ => thn (ho.run pins s1 σ H1 _ I1 q1) fun u s2 ⟨x, H2, I2, r2, a, C, ex, T, hno, q⟩ => ?_) hs⟩
  subst ex
  obtain rfl : u = Value.ref a := r2
  rcases q with ⟨ea, q⟩ | ⟨dx, fs, ea, ed, hl, q⟩
  · exact st_first T I2 ea hno r1 fun dx s' n ne J => ⟨σ, _, J, q dx n ne⟩
  · exact st_next T I2 ea ed hl hno r1 fun s' J => ⟨σ, _, J, q⟩
end
end Dy
end

section
set_option linter.all false
set_option maxRecDepth 100000
set_option maxHeartbeats 4000000
set_option Elab.async false
/-! Dy: the body of an exception's __init__. -/
namespace Dy
open PySem PySem.Spec PyProof.Rows L2
/-- self.f = f, for each of the fields -/
def restB : List String → List Stmt → Bool
  | [], l => l.isEmpty
  | f :: fs, l => match l with
    | .Assign [.Attribute (.Name s _) a _] (.Name v _) _ :: r => s == Str.ofString "self" && a == Str.ofString f && v == Str.ofString f && restB fs r
    | _ => false
/-- .. behind B.__init__(self, '..') -/
def initB (b : Str) (fs : List String) (body : List Stmt) : Bool := match body with
  | .Expr (.Call (.Attribute (.Name x _) m ap) [.Name s _, .Constant (.str _) _ _] [] cp) _ :: r => ap.endLine == cp.line && x == b && m == Str.ofString "__init__" && s == Str.ofString "self" && restB fs r
  | _ => false
/-- the heap while the fields come -/
def Gro (a C : Addr) (H0 : Hp) (acc : List (Str × V)) (H : Hp) : Prop :=
  (acc = [] ∧ H a = some (exo a C none) ∧ ∀ b, b ≠ a → H b = H0 b) ∨ (acc ≠ [] ∧ ∃ dx, H0 dx = none ∧ dx ≠ a ∧ H a = some (exo a C (some dx)) ∧ H dx = some (exd dx acc) ∧ ∀ b, b ≠ a → b ≠ dx → H b = H0 b)
section
variable {X : Cx}
theorem rest_run {iid : String} {C : Addr} (nd : X.N.Nodup) (h0 : X.N[0]? = some (Str.ofString "self")) (v0 : Vis X.env.scope (Str.ofString "self")) (T : MkC X.K C iid) :
    ∀ (fs : List String) (r : List Stmt) (j : Nat), restB fs r = true → (∀ (i : Nat) f, fs[i]? = some f → X.N[j + i]? = some (Str.ofString f) ∧ Vis X.env.scope (Str.ofString f) ∧ (Str.ofString f == ("__debug__" : Str)) = false ∧ (Str.ofString f == ("__classdict__" : Str)) = false ∧ PySem.W.findIn X.K (.ref C) (Str.ofString f) = some none) →
      ∃ t, PSs X r t ∧ ∀ (D : Ends) (σ : L2.St) (H H0 : Hp) (a : Addr) (acc : List (Str × V)) (vs : List V), σ[0]? = some (some (.ref a)) → vs.length = fs.length → (∀ (i : Nat) v, vs[i]? = some v → σ[j + i]? = some (some v)) → acc.length + fs.length ≤ 800 → Gro a C H0 acc H →
        (∀ H', Gro a C H0 (((fs.map Str.ofString).zip vs).reverse ++ acc) H' → D.nx σ H') → t D σ H
  | [], r, j, hr, hf => by
    simp only [restB, List.isEmpty_iff] at hr
    subst hr
    exact ⟨_, pss_nil, fun D σ H H0 a acc vs s0 hl hv hz g hq => hq H (by simpa using g)⟩
  | f :: fs, r, j, hr, hf => by
    simp only [restB] at hr
    split at hr
    · rename_i s p1 g p2 v p3 p4 r'
      simp only [Bool.and_eq_true, beq_iff_eq] at hr
      obtain ⟨⟨⟨rfl, rfl⟩, rfl⟩, hr⟩ := hr
      obtain ⟨f1, f2, f3, f4, f5⟩ := hf 0 f rfl
      obtain ⟨t, ht, hq⟩ := rest_run nd h0 v0 T fs r' (j + 1) hr fun i g e => by
        have := hf (i + 1) g (by simpa using e)
        rw [show j + 1 + i = j + (i + 1) by omega]; exact this
      refine ⟨_, pss_cons (ps_st (iid := iid) (pe_var h0 v0 (by decide) (by decide)) (pe_var f1 f2 f3 f4) rfl) ht, fun D σ H H0 a acc vs s0 hl hv hz g hD => ?_⟩
      cases vs with
      | nil => simp at hl
      | cons y ys =>
        have hy := hv 0 y rfl
        refine ⟨y, hy, .ref a, s0, a, C, rfl, T, f5, ?_⟩
        have next : ∀ H1, Gro a C H0 ((Str.ofString f, y) :: acc) H1 → t D σ H1 := fun H1 g1 => by
          refine hq D σ H1 H0 a _ ys s0 (by simpa using hl) (fun i w e => ?_) (by simp at hz ⊢; omega) g1 fun H' g' => hD H' (by simpa using g')
          have := hv (i + 1) w (by simpa using e)
          rw [show j + 1 + i = j + (i + 1) by omega]; exact this
        rcases g with ⟨rfl, g1, g2⟩ | ⟨ne, dx, g1, g2, g3, g4, g5⟩
        · refine .inl ⟨g1, fun dx n ne => next _ (.inr ⟨by simp, dx, ?_, ne, upd_same, ?_, fun b hb hd => ?_⟩)⟩
          · rw [← g2 dx ne]; exact n
          · rw [upd_ne ne, upd_same]
          · rw [upd_ne hb, upd_ne hd]; exact g2 b hb
        · refine .inr ⟨dx, acc, g3, g4, by omega, next _ (.inr ⟨by simp, dx, g1, g2, ?_, upd_same, fun b hb hd => ?_⟩)⟩
          · rw [upd_ne (Ne.symm g2)]; exact g3
          · rw [upd_ne hd]; exact g5 b hb hd
    · cases hr
end
end Dy
end

section
set_option linter.all false
set_option maxRecDepth 100000
set_option maxHeartbeats 2000000
set_option Elab.async false
namespace Dy
open PySem PySem.Spec PyProof.Rows L2
section
variable {P : Program} {w : World} {K : PySem.W.Frag} {mg : Str → Option Value} {base : Heap} {N ps : List Str} {f : Addr} {name qual : Str} {params : Arguments} {body : List Stmt} {scope : Scope} {dV kV doc pm cdv ct oc : Value} {an od : Option Addr} {osl : Array (Option Value)}
/-- a def is entered: one call, by its body -/
theorem enter_def {C : CXT} {k : Nat} {A : Around} {outer : List Env} {s : Shared} {H : Hp} {args : Args} {us : List Value} {vs : List V} {Q : VK} {E : XK} {t : TS}
    (lk : K.lookup f = some ⟨oc, od, .func (PySem.W.fnOf name qual params body scope dV kV doc pm an cdv ct), osl⟩) (hcd : PySem.W.codeIn K cdv qual = true) (S : FnScope N ps scope)
    (hr : Room (k + 1) A) (e0 : Env0 P w K mg base A outer s H) (hb : BindsTo s (PySem.W.fnOf name qual params body scope dV kV doc pm an cdv ct) args (ps.zip us)) (rv : Vals vs us) (hl : vs.length = ps.length)
    (ht : PSs (cxOf C P w K mg base N qual scope f cdv A outer s H E) body t) (hq : t { nx := fun _ H1 => Q .non H1, rt := Q } (start N vs) H) :
    codeAny (model P w) A (.call (.ref f) args) (CR C outer P w H s Q E) s := by
  have kin : K.In s.heap := e0.mod.kin.keeps fun b o z => (e0.bs b o z).1
  have nl : s.heap.NoLimit := e0.mod.nolimit.keeps fun b o z => (e0.bs b o z).1
  refine codeAny_call_function hr.depth (kin _ _ lk) rfl S.co S.gen rfl (PySem.W.codeRec_of kin hcd) (hb _ _ _ _ ?_)
  refine wpAny_newFunctionEnv_cells S.kind ?_ fun env he s1 x => ?_
  · rintro ⟨n, v⟩ hy
    have hn := (List.of_mem_zip hy).1
    rcases S.par n hn with z | z
    · left; exact z
    · right; exact ⟨z, PySem.W.cellsFrom_some _ _ _ (.inl z)⟩
  · subst he
    refine ⟨nl.keeps x.toInCall.keep, codeAny_func ?_⟩
    have I0 : Inv (cxOf C P w K mg base N qual scope f cdv A outer s H E) [] (start N vs) H s1 := inv_start S hr.hd e0 hl rv x
    refine wpAny_mono (ht.run [] s1 (start N vs) H _ I0 hq) (fun fl s2 hs => ?_) fun _ _ z => z
    cases fl with
    | ret u => obtain ⟨v, _, H1, J, r1, q⟩ := hs; exact ⟨v, H1, J.os, J.bare, J.base, J.hok, r1, q⟩
    | next => obtain ⟨_, H1, J, q⟩ := hs; exact ⟨.non, H1, J.os, J.bare, J.base, J.hok, rfl, q⟩
    | brk => obtain ⟨_, _, _, q⟩ := hs; exact q.elim
    | cont => obtain ⟨_, _, _, q⟩ := hs; exact q.elim
end
end Dy
end

section
set_option linter.all false
set_option maxRecDepth 100000
set_option maxHeartbeats 4000000
set_option Elab.async false
/-! Dy: X(..) for the exceptions of the text. -/
namespace Dy
open PySem PySem.Spec PyProof.Rows L2
/-- the base whose __init__ an __init__ calls -/
inductive BaseAt (K : PySem.W.Frag) (mg : Str → Option Value) (iid : String) : Str → Prop
  | own {D : Addr} {mc : Value} {x : Str} (hm : mg x = some (.ref D)) (n2 : (x == ("__debug__" : Str)) = false) (rd : ClX.CRead K D mc) (vV : PySem.W.findCls K (.ref D) mc "__init__" = some (.val (.builtin iid))) : BaseAt K mg iid x
  | blt {T : String} (hm : mg (Str.ofString T) = none) (hb : bootBuiltins (Str.ofString T) = some (.type T)) (n1 : (Str.ofString T) ≠ "__name__") (n2 : (Str.ofString T == ("__debug__" : Str)) = false) (ty : typeOf (.type T) = pure (.type "type")) (ns : Manifest.isStub T = false)
    (vV : PySem.W.findCls K (.type T) (.type "type") "__init__" = some (.val (.builtin iid))) : BaseAt K mg iid (Str.ofString T)
def iPs (c : EC) : List Str := Str.ofString "self" :: c.fs.map Str.ofString
/-- the class of c at C, and its __init__ -/
structure InitAt (K : PySem.W.Frag) (mg : Str → Option Value) (c : EC) (C : Addr) : Prop where
  ex : ∃ (iid : String) (b : Str) (fI : Addr) (oc : Value) (od : Option Addr) (name qual : Str) (params : Arguments) (body : List Stmt) (scope : Scope) (dV kV doc pm : Value) (an : Option Addr) (cdv ct : Value) (osl : Array (Option Value)),
    MkC K C iid ∧ PySem.W.handedIn (.builtin iid) = true ∧ BaseAt K mg iid b ∧ PySem.W.findIn K (.ref C) "__init__" = some (some (.ref fI)) ∧ PySem.W.typeIn K (.ref fI) = some (.type "function") ∧
      K.lookup fI = some ⟨oc, od, .func (PySem.W.fnOf name qual params body scope dV kV doc pm an cdv ct), osl⟩ ∧ PySem.W.codeIn K cdv qual = true ∧ FnScope (iPs c) (iPs c) scope ∧ scope.names.lookup b = some .globalImplicit ∧ initB b c.fs body = true ∧
      (∀ us : List Value, us.length = (iPs c).length → bindArgs (PySem.W.fnOf name qual params body scope dV kV doc pm an cdv ct) ⟨us, []⟩ = pure ((iPs c).zip us)) ∧ ∀ f ∈ c.fs, PySem.W.findIn K (.ref C) (Str.ofString f) = some none
section
variable {X : Cx} {pins : List (Addr × Obj)} {σ : L2.St}
/-- an exception without attributes, made -/
theorem mk_endN {H1 H2 : Hp} {Q : XK} {hp hp2 h2 : Heap} {g1 g2 : Array GenState} {d1 d2 : Drawn} {t1 t2 : Nat} {os1 os2 : OsState} {a C : Addr} (T : Raises X (.ref C)) (I1 : Inv X pins σ H1 ⟨hp, g1, d1, t1, os1⟩)
    (ha : hp.objs.size ≤ a) (k : ∀ b o, hp.get? b = some o → hp2.get? b = some o) (un : Un (frs X.stack) [] (upd H1 a (exo a C none)) H2 hp2 h2) (hok : HOk X.prog X.w H2 h2) (ho : os2 = os1) (hb : AllBare g2)
    (ea : H2 a = some (exo a C none)) (eo : ∀ b, b ≠ a → H2 b = H1 b) (q : Q (.ref C) none H1) : MkP X pins σ Q (.ref a) ⟨h2, g2, d2, t2, os2⟩ := by
  obtain ⟨t0, hoe⟩ := exo_at hok ea
  have hn : H1 a = none := I1.hok.fresh ha
  obtain ⟨G, y1, y2⟩ := restrict h2 fun b => decide (b ≠ a)
  have gk : ∀ b, b ≠ a → G.get? b = h2.get? b := fun b hb => y1 b (decide_eq_true hb)
  have ge : G.get? a = none := y2 a (by simp)
  have nha : ∀ {b : Addr} {o : Obj}, hp.get? b = some o → b ≠ a := fun {b o} z => Nat.ne_of_lt (Nat.lt_of_lt_of_le (Heap.lt_size z) ha)
  have up : ∀ {b : Addr}, b ≠ a → H1 b = none → upd H1 a (exo a C none) b = none := fun {b} hb n => by rw [upd_ne hb]; exact n
  have U : Un (frs X.stack) [] H1 H1 hp G := {
    keep := fun b o z n hf hx => by rw [gk b (nha z)]; exact un.keep b o (k b o z) (up (nha z) n) hf hx
    slot := fun b o z n hf hx => by rw [gk b (nha z)]; exact un.slot b o (k b o z) (up (nha z) n) hf hx
    free := fun b o z n hx => n
    there := fun b o z hx => by rw [gk b (nha z)]; exact un.there b o (k b o z) hx
    tups := fun b xs z => z
    frzs := fun b o v z => z
    tbls := fun b ps z => ⟨#[], by rw [z]; simp⟩ }
  have hok3 : HOk X.prog X.w H1 G := fun b o z => by
    have hba : b ≠ a := fun e => by rw [e, hn] at z; cases z
    have z2 : H2 b = some o := by rw [eo b hba]; exact z
    refine (hok b o z2).stay (fun c v hc y => ?_) (fun c hc => ?_) fun c xs hc => ?_
    · have hca : c ≠ a := by
        rcases hc with rfl | hc
        · exact hba
        · exact at_ne ea hc exo_own
      rw [gk c hca]; exact y
    · have hca : c ≠ a := at_ne ea hc exo_own
      rw [← eo c hca]; exact hc
    · have hca : c ≠ a := at_ne ea hc exo_tup
      rw [← eo c hca]; exact hc
  have J : Inv X pins σ H1 ⟨G, g2, d2, t2, os2⟩ := I1.call' (ch := []) ho U hok3 hb (fun b z => absurd z (by simp))
  refine ⟨a, _, _, ⟨G, g2, d2, t2, os2⟩, _, .ref C, none, rfl, J, fun b o z => ?_, ge, hoe, ⟨rfl, rfl⟩, rfl, rfl, hn, rfl, hb, T, q⟩
  by_cases hba : b = a
  · rw [hba, ge] at z; cases z
  · exact (gk b hba).symm.trans z
/-- X(..) -/
def tMkE (c : EC) (C : Addr) (ta : TA) : L2.St → Hp → XK → Prop := fun σ H Q => ta σ H fun vs H1 => vs.length = c.fs.length ∧ (c.fs = [] → Q (.ref C) none H1) ∧ (c.fs ≠ [] → ∀ d, H1 d = none → Q (.ref C) (some d) (upd H1 d (.xd ((c.fs.map Str.ofString).zip vs).reverse)))
theorem fs_len (c : EC) : c.fs.length ≤ 3 := by cases c <;> decide
theorem fs_nd (c : EC) : (iPs c).Nodup := by cases c <;> decide +kernel
theorem fs_names (c : EC) : ∀ f ∈ c.fs, (Str.ofString f == ("__debug__" : Str)) = false ∧ (Str.ofString f == ("__classdict__" : Str)) = false := by cases c <;> decide +kernel
theorem mk_exc {c : EC} {C : Addr} {x : Str} {p pos : Pos} {es : List Expr} {ta : TA} (T : InitAt X.K X.mg c C) (hr : Room 2 X.A) (hg : Gl X x) (hm : X.mg x = some (.ref C)) (hdb : (x == ("__debug__" : Str)) = false) (ha : PA X es ta)
    (h0 : es = [] → ∀ (σ : L2.St) (H : Hp) (R : List V → Hp → Prop), ta σ H R → R [] H) (he : ∀ e r, es = e :: r → starEach (e :: r) X.env = (false, eval e X.env) :: starEach r X.env ∧ (backTo pos (starEach r X.env)).any (·.1) = false) : PMk X (.Call (.Name x p) es [] pos) (tMkE c C ta) := by
  intro pins s σ H Q I h
  obtain ⟨iid, b, fI, oc, od, name, qual, params, body, scope, dV, kV, doc, pm, an, cdv, ct, osl, M, hIn, hB, iC, tI, lk, hcd, S, hbg, ib, bind, nat⟩ := T.ex
  obtain ⟨nm, q, N, bs, bm, sn, sub, ab, col, dd, k0, k1, k2, k3, k5, nid, hC, hbm⟩ := M.cls
  have main : ∀ {s1 : Shared} {us : List Value} {vs : List V} {H1 : Hp}, Inv X pins σ H1 s1 → Vals vs us → (vs.length = c.fs.length ∧ (c.fs = [] → Q (.ref C) none H1) ∧ (c.fs ≠ [] → ∀ d, H1 d = none → Q (.ref C) (some d) (upd H1 d (.xd ((c.fs.map Str.ofString).zip vs).reverse)))) →
      wpAny (model X.prog X.w) X.A (call (.ref C) us) (MkP X pins σ Q) X.xe s1 := by
    intro s1 us vs H1 I1 r1 ⟨hl, q0, q1⟩
    obtain ⟨hp, g, dr, tk, os⟩ := s1
    have hsz : hp.objs.size ≤ hp.objs.size + 1 := Nat.le_succ _
    have hn : H1 (hp.objs.size + 1) = none := I1.hok.fresh hsz
    have kk : ∀ b o, hp.get? b = some o → ((hp.push (PySem.W.kdv_tup us)).push (HandSPX.excO C hp.objs.size)).get? b = some o := fun b o e => Heap.get?_push_of_some _ (Heap.get?_push_of_some _ e)
    have hget : ((hp.push (PySem.W.kdv_tup us)).push (HandSPX.excO C hp.objs.size)).get? (hp.objs.size + 1) = some (HandSPX.excO C hp.objs.size) := by heap_get
    have I2 : Inv X pins σ (upd H1 (hp.objs.size + 1) (exo (hp.objs.size + 1) C none)) ⟨(hp.push (PySem.W.kdv_tup us)).push (HandSPX.excO C hp.objs.size), g, dr, tk, os⟩ :=
      I1.laid (t' := tk) (a := hp.objs.size + 1) (o := exo (hp.objs.size + 1) C none) (h' := (hp.push (PySem.W.kdv_tup us)).push (HandSPX.excO C hp.objs.size)) kk hsz (exo_ok hget)
    have r2 : Vals (V.ref (hp.objs.size + 1) :: vs) (Value.ref (hp.objs.size + 1) :: us) := .cons rfl r1
    have hlen : (Value.ref (hp.objs.size + 1) :: us).length = (iPs c).length := by
      have := r1.length
      simp only [iPs, List.length_cons, List.length_map]; omega
    have hus : us.length ≤ sizeLine := by
      have := r1.length
      have := fs_len c
      rw [sizeLine_eq]; omega
    -- the body
    have hrun : codeAny (model X.prog X.w) (X.A.under (.builtin "type.__call__" ⟨.ref C :: us, []⟩)) (.call (.ref fI) ⟨.ref (hp.objs.size + 1) :: us, []⟩)
        (CR (L2.CX X.prog X.w) X.stack X.prog X.w (upd H1 (hp.objs.size + 1) (exo (hp.objs.size + 1) C none)) ⟨(hp.push (PySem.W.kdv_tup us)).push (HandSPX.excO C hp.objs.size), g, dr, tk, os⟩ (fun v H2 => v = .non ∧ Gro (hp.objs.size + 1) C H1 ((c.fs.map Str.ofString).zip vs).reverse H2) (fun _ _ _ => False))
        ⟨(hp.push (PySem.W.kdv_tup us)).push (HandSPX.excO C hp.objs.size), g, dr, tk, os⟩ := by
      have body_ok : ∃ t, PSs (cxOf (L2.CX X.prog X.w) X.prog X.w X.K X.mg X.base (iPs c) qual scope fI cdv (X.A.under (.builtin "type.__call__" ⟨.ref C :: us, []⟩)) X.stack ⟨(hp.push (PySem.W.kdv_tup us)).push (HandSPX.excO C hp.objs.size), g, dr, tk, os⟩ (upd H1 (hp.objs.size + 1) (exo (hp.objs.size + 1) C none)) (fun _ _ _ => False)) body t ∧
          t { nx := fun _ H2 => V.non = V.non ∧ Gro (hp.objs.size + 1) C H1 ((c.fs.map Str.ofString).zip vs).reverse H2, rt := fun v H2 => v = .non ∧ Gro (hp.objs.size + 1) C H1 ((c.fs.map Str.ofString).zip vs).reverse H2 } (L2.start (iPs c) (V.ref (hp.objs.size + 1) :: vs)) (upd H1 (hp.objs.size + 1) (exo (hp.objs.size + 1) C none)) := by
        generalize hX : (cxOf (L2.CX X.prog X.w) X.prog X.w X.K X.mg X.base (iPs c) qual scope fI cdv (X.A.under (.builtin "type.__call__" ⟨.ref C :: us, []⟩)) X.stack ⟨(hp.push (PySem.W.kdv_tup us)).push (HandSPX.excO C hp.objs.size), g, dr, tk, os⟩ (upd H1 (hp.objs.size + 1) (exo (hp.objs.size + 1) C none)) (fun _ _ _ => False)) = Y
        have yN : Y.N = iPs c := by rw [← hX]; rfl
        have yK : Y.K = X.K := by rw [← hX]; rfl
        have yM : Y.mg = X.mg := by rw [← hX]; rfl
        have yS : Y.env.scope = scope := by rw [← hX]; rfl
        have nd : Y.N.Nodup := by rw [yN]; exact fs_nd c
        have vis : ∀ y ∈ iPs c, Vis Y.env.scope y := fun y hy => by
          rw [yS]
          rcases S.par y hy with z | z
          · exact .inl z
          · exact .inr (.inl z)
        have n0 : Y.N[0]? = some (Str.ofString "self") := by rw [yN]; rfl
        have v0 : Vis Y.env.scope (Str.ofString "self") := vis _ (List.mem_cons_self ..)
        have gl : Gl Y b := by show Y.env.scope.names.lookup b = _; rw [yS]; exact hbg
        unfold initB at ib
        split at ib
        · rename_i bx p1 mm p2 sx p3 z0 z1 z2 pc pe r
          simp only [Bool.and_eq_true, beq_iff_eq] at ib
          obtain ⟨⟨⟨⟨il, rfl⟩, rfl⟩, rfl⟩, ir⟩ := ib
          have il : (p2.endLine == pc.line) = true := by rw [beq_iff_eq]; exact il
          obtain ⟨t, ht, hq⟩ := rest_run (X := Y) (iid := iid) (C := C) nd n0 v0 (by rw [yK]; exact M) c.fs r 1 ir fun i f e => by
            have hf := List.mem_of_getElem? e
            obtain ⟨w1, w2⟩ := fs_names c f hf
            refine ⟨?_, vis _ (List.mem_cons_of_mem _ (List.mem_map.mpr ⟨f, hf, rfl⟩)), w1, w2, by rw [yK]; exact nat f hf⟩
            rw [yN, show 1 + i = i + 1 by omega]
            show (c.fs.map Str.ofString)[i]? = _
            rw [List.getElem?_map, e]; rfl
          have pa : PA Y [.Name (Str.ofString "self") p3, .Constant (.str z0) z1 z2] _ := pa_cons (pe_var n0 v0 (by decide) (by decide)) (pa_cons pe_str pa_nil (by rfl)) (by rfl)
          have call : ∃ te, PE Y (.Call (.Attribute (.Name bx p1) (Str.ofString "__init__") p2) [.Name (Str.ofString "self") p3, .Constant (.str z0) z1 z2] [] pc) te ∧ te = tBI Y.K iid (tCons (tVar 0) (tCons (tC (.str z0)) tNil)) := by
            cases hB with
            | own hm n2 rd vV => exact ⟨_, pe_biC gl (by rw [yM]; exact hm) n2 (by rw [yK]; exact rd) (by rw [yK]; exact vV) hIn pa (by rfl) il (by rfl) (by rfl) (by rfl), rfl⟩
            | blt hm hb n1 n2 ty ns vV => exact ⟨_, pe_biT gl (by rw [yM]; exact hm) hb n1 n2 ty ns (by rw [yK]; exact vV) hIn pa (by rfl) il (by rfl) (by rfl) (by rfl), rfl⟩
          obtain ⟨te, pe, rfl⟩ := call
          refine ⟨_, pss_cons (ps_expr pe (by rfl)) ht, ?_⟩
          have st0 : (L2.start (iPs c) (V.ref (hp.objs.size + 1) :: vs))[0]? = some (some (V.ref (hp.objs.size + 1))) := by unfold L2.start; rfl
          refine ⟨_, st0, ?_⟩
          refine ⟨hp.objs.size + 1, C, [.str z0], rfl, by simp, by rw [yK]; exact M, upd_same, ?_⟩
          refine hq _ _ _ H1 (hp.objs.size + 1) [] vs st0 hl (fun i v e => ?_) (by have := fs_len c; simp; omega) (.inl ⟨rfl, upd_same, fun b hb => upd_ne hb⟩) fun H' g' => ⟨rfl, by simpa using g'⟩
          unfold L2.start
          rw [show 1 + i = i + 1 by omega]
          show ((vs.map some) ++ _)[i]? = _
          rw [List.getElem?_append_left (by rw [List.length_map]; exact (List.getElem?_eq_some_iff.mp e).1), List.getElem?_map, e]; rfl
        · cases ib
      obtain ⟨t, ht, hq⟩ := body_ok
      exact enter_def lk hcd S (k := 0) (hr.make C us []) (I2.env0.make C us []) (.of_eq (bind _ hlen)) r2 (by rw [r2.length]; exact hlen) ht hq
    refine wpAny_call (mk_call hbm (I1.kIn _ _ hC) (PySem.W.looks_findIn I1.kIn iC) (fun self => PySem.W.bind_fn I1.kIn self tI) hus (codeAny_mono hrun fun r s' hq' => ?_))
    cases r with
    | error er =>
      obtain ⟨_, _, _, _, _, _, _, _, _, _, _, _, z⟩ := (show L2.CX X.prog X.w X.stack _ _ (fun _ _ _ => False) er s' from hq')
      exact z.elim
    | ok fl =>
      cases fl with
      | next => exact False.elim hq'
      | brk => exact False.elim hq'
      | cont => exact False.elim hq'
      | ret u =>
        obtain ⟨v, H2, os2, bare2, un2, hok2, rv, ev, g2⟩ := hq'
        subst ev
        obtain ⟨h2, gg, dd2, t2, os'⟩ := s'
        refine ⟨rv, ?_⟩
        rcases g2 with ⟨en, ea, eo⟩ | ⟨ne, dx, hd1, da, ea, ed, eo⟩
        · have e0 : c.fs = [] := by
            have := congrArg List.length en
            simp only [List.length_reverse, List.length_zip, List.length_map, List.length_nil, hl, Nat.min_self] at this
            exact List.eq_nil_of_length_eq_zero this
          exact mk_endN (raises_own M.exC M.tyC) I1 hsz kk un2 hok2 os2 bare2 ea eo (q0 e0)
        · have e0 : c.fs ≠ [] := fun z => ne (by rw [z]; rfl)
          have eq : upd (del H2 (hp.objs.size + 1)) dx (.xd ((c.fs.map Str.ofString).zip vs).reverse) = upd H1 dx (.xd ((c.fs.map Str.ofString).zip vs).reverse) := funext fun b => by
            by_cases hb : b = dx
            · rw [hb, upd_same, upd_same]
            · rw [upd_ne hb, upd_ne hb]
              by_cases hb2 : b = hp.objs.size + 1
              · rw [hb2, del_same, hn]
              · rw [del_ne hb2]; exact eo b hb2 hb
          exact mk_end (raises_own M.exC M.tyC) I1 hsz kk un2 hok2 os2 bare2 ea ed hd1 (by rw [eq]; exact q1 e0 dx hd1)
  refine wpAny_Call_Name_kw (ld_glob I hg hm ?_ hdb)
  cases es with
  | nil =>
    exact PySem.W.callWith_K0 I.kIn M.kC (main (us := []) I .nil (h0 rfl _ _ _ h))
  | cons e r =>
    obtain ⟨h1, h2⟩ := he e r rfl
    exact PySem.W.callWith_K (h₀ := X.base) I.ok.mod.kin M.kC (thn (ha.run pos pins s σ H _ I h) fun us s1 ⟨vs, H1, I1, r1, q1⟩ => ⟨I1.kIn, main I1 r1 q1⟩) h1 h2
end
end Dy
end

section
set_option linter.all false
set_option maxRecDepth 100000
set_option maxHeartbeats 1000000
set_option Elab.async false
/-! Dy, part K: the checker of code against the model's tree, and what it gives. -/
namespace Dy
open PySem PySem.Spec PyProof.Rows L2
/-- names of a block: all slots of the def, the kinds that the text's scope tells -/
structure SE where
  N : List Str
  ks : List (Str × NameKind)
  fs : List (Str × Nat × List Str)
  cm : Bool
  rz : Bool
  xs : List EC
  en : Bool
def SE.vis (s : SE) (x : Str) : Bool := match s.ks.lookup x with
  | some .local => true
  | some .cell => true
  | some .free => true
  | _ => false
def SE.own (s : SE) (x : Str) : Bool := match s.ks.lookup x with
  | some .local => true
  | some .cell => true
  | _ => false
def SE.glo (s : SE) (x : Str) : Bool := match s.ks.lookup x with
  | some .globalImplicit => true
  | _ => false
/-- the built-in names that code may read -/
def bltNames : List Str := ["len", "tuple", "list", "all", "any", "sorted", "int", "str", "max", "min", "abs", "repr", "bool", "isinstance", "range", "enumerate", "zip", "reversed", "set", "dict", "sum"]
/-- what code may let out is taken -/
def TkW (X : Cx) (W : Option WX) : Prop := ∀ W0, W = some W0 → Takes X W0
theorem TkW.none (X : Cx) : TkW X none := fun _ z => nomatch z
/-- a def may be called, with n values and the keywords ks: what the interpreter's call ends in, the run ends in -/
def CallOk (W : Option WX) (k : Kx) (cl : Cl) (X : Cx) (f : Str) (n : Nat) (ks : List Str) : Prop := ∃ a, X.mg f = some (.ref a) ∧ PySem.W.keepIn X.K (.ref a) = true ∧
  ∀ (pins : List (Addr × Obj)) (σ : L2.St) (H : Hp) (st : Shared) (us ws : List Value) (vs zs : List V) (Q : VK), Inv X pins σ H st → Vals vs us → Vals zs ws → us.length = n → ws.length = ks.length →
    (∃ w h l m, w.H = H ∧ WR k w h ∧ RepL k w l vs ∧ RepL k w m zs ∧ post k W (Rep k) w σ (cl.call f l ks m h) Q) → wpAny (model X.prog X.w) X.A (call (.ref a) us (ks.zip ws)) (EP X pins σ Q) X.xe st
/-- a class as a value -/
def clsV (k : Kx) (d : EC) : Value := if d.blt then .type d.nm else .ref (k.ea.at_ d)
def clsW (k : Kx) (d : EC) : V := if d.blt then .ty d.nm else .ref (k.ea.at_ d)
/-- the classes that the text names -/
structure XcF (k : Kx) (mg : Str → Option Value) (xs : List EC) : Prop where
  cls : ∀ c, k.ea.ok c = true → XcC k.K (k.ea.at_ c) ∧ (∀ f ∈ c.fs, PySem.W.findIn k.K (.ref (k.ea.at_ c)) (Str.ofString f) = some none) ∧ InitAt k.K mg c (k.ea.at_ c)
  own : ∀ d ∈ xs, d.blt = false → mg (Str.ofString d.nm) = some (.ref (k.ea.at_ d))
  blt : ∀ d ∈ xs, d.blt = true → mg (Str.ofString d.nm) = none ∧ bootBuiltins (Str.ofString d.nm) = some (.type d.nm)
  lf : ∀ d ∈ xs, d.leaf = true → k.ea.ok d = true
  exm : ∀ c, k.ea.ok c = true → ∀ d ∈ xs, PySem.W.exmOne k.K (.ref (k.ea.at_ c)) (clsV k d) = some (c.sub d)
  kit : ∀ c, k.ea.ok c = true → ∀ d ∈ xs, PySem.W.kitOne k.K (.ref (k.ea.at_ c)) (clsV k d) = some (c.sub d)
/-- what a context must be -/
structure Fit (W : Option WX) (cl : Cl) (k : Kx) (X : Cx) (s : SE) : Prop where
  hK : X.K = k.K
  hN : X.N = s.N
  nd : X.N.Nodup
  ks : ∀ x c, s.ks.lookup x = some c → X.env.scope.names.lookup x = some c ∨ (c = .free ∧ X.env.scope.names.lookup x = some .cell)
  fn : ∀ x, s.ks.lookup x = some .cell → X.fn x = true
  calm : s.cm = true → X.calm = true
  guards : X.A.guards = some []
  units : X.A.units + 120 < cLine
  blt : ∀ x ∈ bltNames, X.mg x = none
  glo : ∀ x d, cl.gl x = some d → ∃ v u, X.mg x = some u ∧ RelV v u ∧ ∀ w, Rep k w d v
  tk : TkW X W
  rz : s.rz = true → W = none
  xf : XcF k X.mg s.xs
  nh : s.cm = true → k.ea.hid = none
  exc : s.en = true → ∀ a n dd c, k.ea.hid = some (a, n, dd, c) → InHand X a (k.ea.at_ c) dd
  call : ∀ p ∈ s.fs, ∀ (W' : Option WX) (X' : Cx), (s.rz = true → W' = none) → X'.prog = X.prog → X'.w = X.w → X'.K = X.K → X'.mg = X.mg → X'.base = X.base → X'.A = X.A → TkW X' W' → CallOk W' k cl X' p.1 p.2.1 p.2.2
theorem lookup_map {f : Str → NameKind → NameKind} {x : Str} : ∀ {l : List (Str × NameKind)}, (l.map fun p => (p.1, f p.1 p.2)).lookup x = (l.lookup x).map (f x)
  | [] => rfl
  | (n, c) :: r => by
    simp only [List.map_cons, List.lookup_cons]
    cases e : x == n with
    | true =>
      have : x = n := by simpa using e
      subst this; rfl
    | false => exact lookup_map
theorem relabel_look (scope : Scope) (env : Env) (x : Str) : (relabel scope env).names.lookup x = (scope.names.lookup x).map fun c => if (c == .free && env.scope.kind == .function && env.kindOf x == some .cell) = true then .cell else c := by
  have e : (relabel scope env).names = scope.names.map fun p => (p.1, (fun n c => if (c == NameKind.free && env.scope.kind == .function && env.kindOf n == some .cell) = true then NameKind.cell else c) p.1 p.2) := by
    unfold relabel
    refine List.map_congr_left fun p _ => ?_
    obtain ⟨n, c⟩ := p
    show (if _ then _ else _) = _
    split
    · rename_i h; simp [h]
    · rename_i h; simp [h]
  rw [e]
  exact lookup_map (f := fun n c => if (c == NameKind.free && env.scope.kind == .function && env.kindOf n == some .cell) = true then NameKind.cell else c)
section
variable {W : Option WX} {T : Cl} {k : Kx} {X : Cx} {s : SE}
theorem Fit.Vis (F : Fit W T k X s) {x : Str} (h : s.vis x = true) : L2.Vis X.env.scope x := by
  unfold SE.vis at h
  split at h <;> first | (exact Bool.noConfusion h) | skip
  · rename_i e
    rcases F.ks x _ e with q | ⟨q, _⟩
    · exact .inl q
    · cases q
  · rename_i e
    rcases F.ks x _ e with q | ⟨q, _⟩
    · exact .inr (.inl q)
    · cases q
  · rename_i e
    rcases F.ks x _ e with q | ⟨_, q⟩
    · exact .inr (.inr q)
    · exact .inr (.inl q)
theorem Fit.Loc (F : Fit W T k X s) {x : Str} (h : s.own x = true) : L2.Loc X.env.scope x ∧ (X.fn x = true ∨ X.env.scope.names.lookup x = some .local) := by
  unfold SE.own at h
  split at h <;> first | (exact Bool.noConfusion h) | skip
  · rename_i e
    rcases F.ks x _ e with q | ⟨q, _⟩
    · exact ⟨.inl q, .inr q⟩
    · cases q
  · rename_i e
    rcases F.ks x _ e with q | ⟨q, _⟩
    · exact ⟨.inr q, .inl (F.fn x e)⟩
    · cases q
theorem Fit.Gl (F : Fit W T k X s) {x : Str} (h : s.glo x = true) : L2.Gl X x := by
  unfold SE.glo at h
  split at h <;> first | (exact Bool.noConfusion h) | skip
  rename_i e
  rcases F.ks x _ e with q | ⟨q, _⟩
  · exact q
  · cases q
/-- a comprehension's block fits -/
theorem Fit.blk (F : Fit W T k X s) (s0 : Shared) (H : Hp) (scope : Scope) (C : Addr) (cl : List (Str × Addr)) (fp : List Addr) : Fit none T k (X.blk s0 H scope (compEnvC scope cl C X.env) fp) ⟨s.N, scope.names, s.fs, s.cm, s.rz, s.xs, false⟩ where
  hK := F.hK
  hN := F.hN
  nd := F.nd
  ks := fun x c e => by
    show (relabel scope X.env).names.lookup x = some c ∨ (c = .free ∧ (relabel scope X.env).names.lookup x = some .cell)
    rw [relabel_look]
    have e : scope.names.lookup x = some c := e
    rw [e]
    by_cases hc : (c == NameKind.free && X.env.scope.kind == .function && X.env.kindOf x == some .cell) = true
    · right
      refine ⟨?_, by simp only [Option.map_some, hc, if_true]⟩
      simp only [Bool.and_eq_true, beq_iff_eq] at hc
      exact hc.1.1
    · left
      simp only [Option.map_some, hc]
      simp
  fn := fun x e => by
    have e : scope.names.lookup x = some .cell := e
    show (scope.names.lookup x == some .cell) = true
    rw [e]; rfl
  calm := F.calm
  guards := F.guards
  units := F.units
  blt := F.blt
  glo := F.glo
  tk := .none _
  rz := fun _ => rfl
  xf := F.xf
  nh := F.nh
  exc := fun z => Bool.noConfusion z
  call := F.call
end
end Dy
end

section
set_option linter.all false
set_option maxRecDepth 100000
set_option maxHeartbeats 2000000
set_option Elab.async false
namespace Dy
open PySem PySem.Spec PyProof.Rows L2
/-! ### the checker -/
def opIs : Bo → Operator → Bool
  | .add, .Add => true
  | .sub, .Sub => true
  | .mul, .Mult => true
  | .fdiv, .FloorDiv => true
  | .mod, .Mod => true
  | .pow, .Pow => true
  | _, _ => false
def coIs : Co → CmpOp → Bool
  | .eq, .Eq => true
  | .ne, .NotEq => true
  | .lt, .Lt => true
  | .le, .LtE => true
  | .gt, .Gt => true
  | .ge, .GtE => true
  | .is_, .Is => true
  | .isn, .IsNot => true
  | .in_, .In => true
  | .nin, .NotIn => true
  | _, _ => false
def notSet : Expr → Bool
  | .Set _ _ _ => false
  | _ => true
/-- names that may be read -/
def okName (x : Str) : Bool := x != ("__debug__" : Str) && x != ("__classdict__" : Str)
/-- an index that is no slice -/
def plainIx : Expr → Bool
  | .Name _ _ => true
  | .Constant _ _ _ => true
  | .BinOp _ _ _ _ => true
  | .Call _ _ _ _ => true
  | .UnaryOp _ _ _ => true
  | .Subscript _ _ _ => true
  | _ => false
def blName : Bl → String
  | .len => "len"
  | .tuple => "tuple"
  | .list => "list"
  | .all => "all"
  | .any => "any"
  | .sorted => "sorted"
  | .int => "int"
  | .str => "str"
  | .set => "set"
  | .max => "max"
  | .min => "min"
  | .abs => "abs"
  | .repr => "repr"
  | .dict => "dict"
  | .bool => "bool"
  | .sum => "sum"
/-- built-ins with a rule here -/
def Bl.has : Bl → Bool
  | .set => false
  | .bool => false
  | .sum => false
  | _ => true
def mtName : Mt → String
  | .append => "append"
  | .extend => "extend"
  | .pop0 => "pop"
  | .pop1 => "pop"
  | .insert => "insert"
  | .clear => "clear"
  | .index => "index"
  | .join => "join"
  | .split => "split"
  | .upper => "upper"
  | .partition => "partition"
  | _ => ""
def notCall : Expr → Bool
  | .Call _ _ _ _ => false
  | _ => true
def tyIs (t : Ty) : Expr → Bool
  | .Name x _ => t.isB && x == Str.ofString t.nm
  | _ => false
/-- targets -/
def chkG (s : SE) : Tg → Expr → Bool
  | .nm i, E => match E with
    | .Name x _ => s.N[i]? == some x && s.own x
    | _ => false
  | .tp t, E => match E with
    | .Tuple es _ _ => s.cm && chkGs s t es
    | _ => false
  | _, _ => false
where
  chkGs (s : SE) : Tg → List Expr → Bool
  | .nil, es => es.isEmpty
  | .cons a r, es => match es with
    | e :: es => !a.isStar && notStar e && chkG s a e && chkGs s r es
    | [] => false
  | _, _ => false
end Dy
end

section
set_option linter.all false
set_option maxRecDepth 100000
set_option maxHeartbeats 2000000
set_option Elab.async false
namespace Dy
open PySem PySem.Spec PyProof.Rows L2
section
variable {ca : Str → Addr} {ea : Ec} {W : Option WX} {T : Cl} {X : Cx} {s : SE}
theorem asgn_map {e : Expr} (es : List Expr) (env : Env) (hn : notStar e = true) : (assignEach (e :: es) env).map (·.2) = assign e env :: (assignEach es env).map (·.2) := by
  rw [asgn_cons es env hn]; rfl
mutual
theorem chkG_ok (F : Fit W T (kX X ca ea) X s) : ∀ (t : Tg) (E : Expr), chkG s t E = true → PG X E (gD (kX X ca ea) t)
  | .nm i, E, h => by
    cases E <;> simp only [chkG] at h <;> first | (exact Bool.noConfusion h) | skip
    simp only [Bool.and_eq_true, beq_iff_eq] at h
    obtain ⟨h1, h2⟩ := F.Loc h.2
    exact pgd_name F.nd (by rw [F.hN]; exact h.1) h1 h2
  | .tp t, E, h => by
    cases E <;> simp only [chkG] at h <;> first | (exact Bool.noConfusion h) | skip
    rename_i es _ _
    rw [Bool.and_eq_true] at h
    obtain ⟨hc, h⟩ := h
    obtain ⟨h1, h2, h3, h4⟩ := chkGs_ok F t es h
    obtain ⟨a1, a2⟩ := asgn_len (env := X.env) h4
    exact pgd_tp (F.calm hc) h1 h2 (by rw [a1, h3]) a2
  | .nil, E, h => by simp [chkG] at h
  | .cons a r, E, h => by simp [chkG] at h
  | .star i, E, h => by simp [chkG] at h
theorem chkGs_ok (F : Fit W T (kX X ca ea) X s) : ∀ (t : Tg) (es : List Expr), chkG.chkGs s t es = true → PGs X es (gsD (kX X ca ea) t) ∧ t.row = true ∧ es.length = t.len ∧ es.all notStar = true
  | .nil, es, h => by
    simp only [chkG.chkGs, List.isEmpty_iff] at h
    subst h
    exact ⟨pgds_nil, rfl, rfl, rfl⟩
  | .cons a r, es, h => by
    cases es with
    | nil => simp [chkG.chkGs] at h
    | cons e es =>
      simp only [chkG.chkGs, Bool.and_eq_true, Bool.not_eq_true'] at h
      obtain ⟨⟨⟨h1, h2⟩, h3⟩, h4⟩ := h
      obtain ⟨g1, g2, g3, g4⟩ := chkGs_ok F r es h4
      exact ⟨pgds_cons (chkG_ok F a e h3) g1 h1 (asgn_map es X.env h2), by simp [Tg.row, h1, g2], by simp [Tg.len, g3], by simp [h2, g4]⟩
  | .nm _, es, h => by simp [chkG.chkGs] at h
  | .tp _, es, h => by simp [chkG.chkGs] at h
  | .star _, es, h => by simp [chkG.chkGs] at h
end
theorem star_of_not {b : Bool} : (!b) = true → b = false := by cases b <;> simp
end
end Dy
end

section
set_option linter.all false
set_option maxRecDepth 100000
set_option maxHeartbeats 2000000
set_option Elab.async false
namespace Dy
open PySem PySem.Spec PyProof.Rows L2
/-- a comprehension's block: its scope, its own names -/
def ownOf (s : SE) (t : Tg) (scope : Scope) : Option (List (Str × Nat)) := (t.slots.mapM fun i => (s.N[i]?).map fun x => (x, i))
/-- a scope as blkC asks, by the kinds that the text tells -/
def blkD (s : SE) (scope : Scope) (own : List (Str × Nat)) : Bool :=
  (match scope.kind with | .function => true | _ => false) && (scope.names.all fun y => decide (scope.names.lookup y.1 = some y.2)) && (own.all fun p => decide (s.N[p.2]? = some p.1)) &&
    (scope.names.all fun y => match y.2 with
      | .free => (match s.ks.lookup y.1 with | some .cell => true | some .free => true | _ => false)
      | .local => decide (y.1 ∈ own.map (·.1)) || decide (y.1 ∉ s.N)
      | .cell => decide (y.1 ∈ own.map (·.1)) || decide (y.1 ∉ s.N)
      | _ => true)
theorem blkD_ok {W : Option WX} {T : Cl} {k : Kx} {X : Cx} {s : SE} (F : Fit W T k X s) {scope : Scope} {own : List (Str × Nat)} (h : blkD s scope own = true) : BlkOk X.N X.env.scope scope own := by
  unfold blkD at h
  simp only [Bool.and_eq_true, List.all_eq_true, decide_eq_true_eq] at h
  obtain ⟨⟨⟨h1, h2⟩, h3⟩, h4⟩ := h
  refine ⟨?_, h2, fun p hp => by rw [F.hN]; exact h3 p hp, fun y hy e => ?_, fun y hy e => ?_⟩
  · split at h1
    · assumption
    · cases h1
  · have q := h4 y hy
    simp only [e] at q
    split at q
    · rename_i e2
      rcases F.ks _ _ e2 with z | ⟨z, _⟩
      · exact .inl z
      · cases z
    · rename_i e2
      rcases F.ks _ _ e2 with z | ⟨_, z⟩
      · exact .inr z
      · exact .inl z
    · cases q
  · have q := h4 y hy
    rw [F.hN]
    rcases e with e | e <;> (simp only [e, Bool.or_eq_true, decide_eq_true_eq] at q; exact q)
end Dy
end

section
set_option linter.all false
set_option maxRecDepth 100000
set_option maxHeartbeats 2000000
set_option Elab.async false
namespace Dy
open PySem PySem.Spec PyProof.Rows L2
def kwNames : List Keyword → Option (List Str)
  | [] => some []
  | k :: r => match k.arg, kwNames r with
    | some x, some l => some (x :: l)
    | _, _ => none
def kwVals (l : List Keyword) : List Expr := l.map (·.value)
def isIf : Expr → Bool
  | .IfExp _ _ _ _ => true
  | _ => false
/-- a test that is read as a value -/
def plainT : Expr → Bool
  | .Name _ _ => true
  | .Call _ _ _ _ => true
  | .Subscript _ _ _ => true
  | .Attribute _ _ _ => true
  | .BinOp _ _ _ _ => true
  | .Constant _ _ _ => true
  | _ => false
/-- built-ins that walk what they take -/
def Bl.calm : Bl → Bool
  | .all => true
  | .any => true
  | .max => true
  | .min => true
  | .list => true
  | .dict => true
  | _ => false
def tyRow : List Ty → List Expr → Bool
  | [], [] => true
  | t :: ts, e :: es => tyIs t e && tyRow ts es
  | _, _ => false
def tyGlo (s : SE) : List Ty → Bool
  | [] => true
  | t :: ts => s.glo t.nm && tyGlo s ts
/-- what a piece of our code stands for: as a value, as a test, as a row, as what is walked -/
structure Ck where
  E : SE → Expr → Bool
  T : SE → Expr → Bool
  L : SE → List Expr → Bool
  I : SE → Expr → Expr → Bool
  G : SE → Expr → Bool
/-- a value -/
def Ck.v (f : SE → Expr → Bool) : Ck := ⟨f, fun s E => plainT E && f s E, fun _ _ => false, fun s _ E => f s E, fun _ _ => false⟩
/-- a value whose test is read otherwise -/
def Ck.b (f g : SE → Expr → Bool) : Ck := ⟨f, g, fun _ _ => false, fun s _ E => f s E, fun _ _ => false⟩
def Ck.no : Ck := ⟨fun _ _ => false, fun _ _ => false, fun _ _ => false, fun _ _ _ => false, fun _ _ => false⟩
def ckBool (and : Bool) (a b : SE → Expr → Bool) (s : SE) (E : Expr) : Bool := match E with
  | .BoolOp op (A :: B :: R) p => (match op with | .And => and | .Or => !and) && a s A && (match R with
    | [] => b s B
    | _ :: _ => b s (.BoolOp op (B :: R) p))
  | _ => false
def ckCmp (o : Co) (a b : SE → Expr → Bool) (s : SE) (E : Expr) : Bool := match E with
  | .Compare A [op] [B] _ => coIs o op && notSet B && a s A && b s B
  | _ => false
def ckCmp2 (o o' : Co) (a b c : SE → Expr → Bool) (s : SE) (E : Expr) : Bool := match E with
  | .Compare A [op, op'] [B, C] _ => coIs o op && coIs o' op' && notSet C && a s A && b s B && c s C
  | _ => false
def ckNot (a : SE → Expr → Bool) (s : SE) (E : Expr) : Bool := match E with
  | .UnaryOp .Not A _ => a s A
  | _ => false
def ckCall (f : Str) (ks : List Str) (l m : SE → List Expr → Bool) (s : SE) (E : Expr) : Bool := match E with
  | .Call (.Name x _) Es kws _ => f == x && s.fs.contains (f, Es.length, ks) && s.glo x && okName x && !Es.isEmpty && kwNames kws == some ks && (kwVals kws).all notStar && l s Es && m s (kwVals kws)
  | _ => false
def ckLc (t : Tg) (yes : Bool) (e c : Ck) (it : Ck) (s : SE) (E : Expr) : Bool := match E with
  | .ListComp El [⟨tg, It, ifs, 0⟩] scope _ => match ownOf s t scope with
    | some own => s.cm && blkD s scope own && notSet It && it.I s tg It && chkG ⟨s.N, scope.names, s.fs, s.cm, s.rz, s.xs, false⟩ t tg && (match ifs with
      | [] => yes
      | [C] => c.T ⟨s.N, scope.names, s.fs, s.cm, s.rz, s.xs, false⟩ C
      | _ => false) && e.E ⟨s.N, scope.names, s.fs, s.cm, s.rz, s.xs, false⟩ El
    | none => false
  | _ => false
def ckRng (es : Ck) (s : SE) (tg E : Expr) : Bool := match E with
  | .Call (.Name x _) [A] [] _ => x == Str.ofString "range" && s.glo x && es.L s [A]
  | .Call (.Name x _) [A, B] [] _ => x == Str.ofString "range" && s.glo x && es.L s [A, B]
  | _ => false
def ckEnum (a : Ck) (s : SE) (tg E : Expr) : Bool := match tg with
  | .Tuple _ _ _ => (match E with
    | .Call (.Name x _) [A] [] _ => x == Str.ofString "enumerate" && s.glo x && notStar A && a.E s A
    | _ => false)
  | _ => false
def ckZip (st : Bool) (a b : Ck) (s : SE) (tg E : Expr) : Bool := match tg with
  | .Tuple _ _ _ => (match E with
    | .Call (.Name x _) [A, B] [] _ => !st && x == Str.ofString "zip" && s.glo x && notStar A && notStar B && a.E s A && b.E s B
    | _ => false)
  | _ => false
def Ex.isTrueK : Ex → Bool
  | .kb true => true
  | _ => false
/-- a row of classes -/
def clsRow (s : SE) : List EC → List Expr → Bool
  | [], [] => true
  | d :: ds, .Name z _ :: es => z == Str.ofString d.nm && s.glo z && s.xs.contains d && clsRow s ds es
  | _, _ => false
/-- the checker -/
def chk : Ex → Ck
  | .var i => .v fun s E => match E with
    | .Name x _ => s.N[i]? == some x && s.vis x && okName x
    | _ => false
  | .kn => .v fun s E => match E with
    | .Constant .none _ _ => true
    | _ => false
  | .kb b => .v fun s E => match E with
    | .Constant (.bool c) _ _ => b == c
    | _ => false
  | .ki i => .v fun s E => match E with
    | .Constant (.int c) _ _ => i == c
    | _ => false
  | .ks x => .v fun s E => match E with
    | .Constant (.str c) _ _ => x == c && sOk x
    | _ => false
  | .glo x => .v fun s E => match E with
    | .Name y _ => x == y && s.glo x && okName x
    | _ => false
  | .bin m o a b => .v fun s E => match E with
    | .BinOp A op B _ => opIs o op && (chk a).E s A && (chk b).E s B
    | _ => false
  | .neg a => .v fun s E => match E with
    | .UnaryOp .USub A _ => (chk a).E s A
    | _ => false
  | .cmp o a b => .b (ckCmp o (chk a).E (chk b).E) (ckCmp o (chk a).E (chk b).E)
  | .cmp2 o o' a b c => .b (ckCmp2 o o' (chk a).E (chk b).E (chk c).E) (ckCmp2 o o' (chk a).E (chk b).E (chk c).E)
  | .not a => .b (ckNot (chk a).E) (ckNot (chk a).T)
  | .and a b => .b (ckBool true (chk a).E (chk b).E) (ckBool true (chk a).T (chk b).T)
  | .or a b => .b (ckBool false (chk a).E (chk b).E) (ckBool false (chk a).T (chk b).T)
  | .ife t a b => .v fun s E => match E with
    | .IfExp C A B _ => (chk t).T s C && (chk a).E s A && (chk b).E s B
    | _ => false
  | .tup es => .v fun s E => match E with
    | .Tuple Es _ _ => (chk es).L s Es && decide (Es.length ≤ 1000)
    | _ => false
  | .lst m es => .v fun s E => match E with
    | .List Es _ => (chk es).L s Es && decide (Es.length ≤ 1000)
    | _ => false
  | .blt m b es => .v fun s E => match E with
    | .Call (.Name x _) Es [] _ => b.has && (s.cm || !b.calm) && x == Str.ofString (blName b) && s.glo x && !Es.isEmpty && (chk es).L s Es
    | _ => false
  | .met m t o es => .v fun s E => match E with
    | .Call (.Attribute O name ap) Es [] cp => name == Str.ofString (mtName t) && ((t == .pop0 || t == .clear || t == .upper) == Es.isEmpty) && (mtName t != "") && notCall O && decide (Es.length < 30) && (ap.endLine == cp.line) && (chk o).E s O && (chk es).L s Es
    | _ => false
  | .isi a ts => .v fun s E => match E with
    | .Call (.Name x _) [A, Ty] [] _ => x == Str.ofString "isinstance" && s.glo x && notStar A && (chk a).E s A && tyGlo s ts && (match ts with
      | [t] => tyIs t Ty
      | _ => false)
    | _ => false
  | .sub o i => .v fun s E => match E with
    | .Subscript O I _ => plainIx I && (chk o).E s O && (chk i).E s I
    | _ => false
  | .sli m o lo hi => .v fun s E => match E with
    | .Subscript O (.Slice L H none _) _ => (chk o).E s O && (match L with
      | none => lo.isKn
      | some e => !lo.isKn && (chk lo).E s e) && (match H with
      | none => hi.isKn
      | some e => !hi.isKn && (chk hi).E s e)
    | _ => false
  | .rev m o => .v fun s E => match E with
    | .Subscript O (.Slice none none (some (.UnaryOp .USub (.Constant (.int 1) _ _) _)) _) _ => (chk o).E s O
    | _ => false
  | .lc m e t it c => .v (ckLc t c.isTrueK (chk e) (chk c) (chk it))
  | .listr m a => .v fun s E => match E with
    | .Call (.Name x _) [A] [] _ => x == Str.ofString "list" && s.glo x && (chk a).G s A
    | _ => false
  | .frz a => .v fun s E => (chk a).E s E
  | .call f es ks kes => .v (ckCall f ks (chk es).L (chk kes).L)
  | .nil => ⟨fun _ _ => false, fun _ _ => false, fun s es => es.isEmpty, fun _ _ _ => false, fun _ _ => false⟩
  | .cons e r => ⟨fun _ _ => false, fun _ _ => false, fun s es => match es with
    | E :: es => notStar E && (chk e).E s E && (chk r).L s es
    | [] => false, fun _ _ _ => false, fun _ _ => false⟩
  | .rng es => ⟨fun _ _ => false, fun _ _ => false, fun _ _ => false, ckRng (chk es), fun s E => s.cm && ckRng (chk es) s E E⟩
  | .exf i f => .v fun s E => match E with
    | .Attribute (.Name x _) g _ => s.N[i]? == some x && s.vis x && okName x && f == g && s.en
    | _ => false
  | .ise i cs => .v fun s E => match E with
    | .Call (.Name x _) [.Name y _, Ty] [] _ => x == Str.ofString "isinstance" && s.glo x && s.N[i]? == some y && s.vis y && okName y && s.en && (match Ty with
      | .Name z _ => (match cs with
        | [d] => z == Str.ofString d.nm && s.glo z && s.xs.contains d
        | _ => false)
      | .Tuple Es _ _ => decide (cs.length < 100) && clsRow s cs Es
      | _ => false)
    | _ => false
  | .mk _ _ _ _ => .no
  | .mcall _ _ _ _ _ _ => .no
  | .exc _ _ => .no
  | .mindef _ _ => .no
  | .sortrev _ => .no
  | .attr _ _ => .no
  | .fst _ => .no
  | .dct _ _ => .no
  | .set _ => .no
  | .lc2 _ _ _ _ _ _ _ _ => .no
  | .dc _ _ _ _ _ => .no
  | .dc2 _ _ _ _ _ _ _ => .no
  | .sc _ _ _ => .no
  | .enum a => ⟨fun _ _ => false, fun _ _ => false, fun _ _ => false, ckEnum (chk a), fun _ _ => false⟩
  | .zip st a b => ⟨fun _ _ => false, fun _ _ => false, fun _ _ => false, ckZip st (chk a) (chk b), fun _ _ => false⟩
  | .items _ => .no
  | .values _ => .no
  | .revr _ => .no
end Dy
end

section
set_option linter.all false
set_option maxRecDepth 100000
set_option maxHeartbeats 2000000
set_option Elab.async false
namespace Dy
open PySem PySem.Spec PyProof.Rows L2
section
variable {ca : Str → Addr} {ea : Ec} {W : Option WX} {T : Cl} {X : Cx} {s : SE}
theorem PK.imp {kws : List Keyword} {t t' : TA} (h : PK X kws t) (i : ∀ σ H Q, t' σ H Q → t σ H Q) : PK X kws t' := ⟨fun pos pins s σ H Q I q => h.run pos pins s σ H Q I (i σ H Q q)⟩
theorem kwVals_cons {k : Keyword} {kws : List Keyword} : kwVals (k :: kws) = k.value :: kwVals kws := rfl
/-- what the checker gives -/
structure Snd (ca : Str → Addr) (ea : Ec) (T : Cl) (e : Ex) : Prop where
  oE : ∀ (W : Option WX) (X : Cx) (s : SE), Fit W T (kX X ca ea) X s → ∀ E, (chk e).E s E = true → PE X E (tE (kX X ca ea) W (evalE T e)) ∧ notStar E = true
  oT : ∀ (W : Option WX) (X : Cx) (s : SE), Fit W T (kX X ca ea) X s → ∀ E, (chk e).T s E = true → PT X E (tT (kX X ca ea) W (rT (evalE T e)))
  oL : ∀ (W : Option WX) (X : Cx) (s : SE), Fit W T (kX X ca ea) X s → ∀ es, (chk e).L s es = true → PA X es (tA (kX X ca ea) W (rowE (evalE T e))) ∧ RowN (evalE T e) es.length ∧ es.all notStar = true
  oI : ∀ (W : Option WX) (X : Cx) (s : SE), Fit W T (kX X ca ea) X s → ∀ tg E, (chk e).I s tg E = true → PI X tg E (tI (kX X ca ea) W (srcE (evalE T e)))
  oG : ∀ (W : Option WX) (X : Cx) (s : SE), Fit W T (kX X ca ea) X s → ∀ m p pos E, s.glo "list" = true → (chk e).G s E = true → PE X (.Call (.Name "list" p) [E] [] pos) (tE (kX X ca ea) W (evalE T (.listr m e)))
  oK : ∀ (W : Option WX) (X : Cx) (s : SE), Fit W T (kX X ca ea) X s → ∀ kws, (chk e).L s (kwVals kws) = true → PK X kws (tA (kX X ca ea) W (rowE (evalE T e)))
theorem isT_plain {E : Expr} (h : plainT E = true) (env : Env) (whole : Sem Value) : PySem.isTrue E env whole = (do let v ← whole; standAt E.pos; holding [v] (PySem.truthy v)) := by
  cases E <;> first | (exact Bool.noConfusion h) | (unfold PySem.isTrue; rfl) | rfl
/-- a plain value -/
theorem Snd.v {e : Ex} {f : SE → Expr → Bool} (hc : chk e = .v f) (h : ∀ (W : Option WX) (X : Cx) (s : SE), Fit W T (kX X ca ea) X s → ∀ E, f s E = true → PE X E (tE (kX X ca ea) W (evalE T e)) ∧ notStar E = true) : Snd ca ea T e := by
  refine ⟨fun W X s F E q => ?_, fun W X s F E q => ?_, fun W X s F es q => ?_, fun W X s F tg E q => ?_, fun W X s F m p pos E hg q => ?_, fun W X s F kws q => ?_⟩
  · rw [hc] at q; exact h W X s F E q
  · rw [hc] at q
    have q : (plainT E && f s E) = true := q
    rw [Bool.and_eq_true] at q
    exact ptd_val (h W X s F E q.2).1 (isT_plain q.1 X.env)
  · rw [hc] at q; exact Bool.noConfusion q
  · rw [hc] at q
    exact pi_any (h W X s F E q).1
  · rw [hc] at q; exact Bool.noConfusion q
  · rw [hc] at q; exact Bool.noConfusion q
theorem Snd.b {e : Ex} {f g : SE → Expr → Bool} (hc : chk e = .b f g) (h : ∀ (W : Option WX) (X : Cx) (s : SE), Fit W T (kX X ca ea) X s → ∀ E, f s E = true → PE X E (tE (kX X ca ea) W (evalE T e)) ∧ notStar E = true)
    (h2 : ∀ (W : Option WX) (X : Cx) (s : SE), Fit W T (kX X ca ea) X s → ∀ E, g s E = true → PT X E (tT (kX X ca ea) W (rT (evalE T e)))) : Snd ca ea T e := by
  refine ⟨fun W X s F E q => ?_, fun W X s F E q => ?_, fun W X s F es q => ?_, fun W X s F tg E q => ?_, fun W X s F m p pos E hg q => ?_, fun W X s F kws q => ?_⟩
  · rw [hc] at q; exact h W X s F E q
  · rw [hc] at q; exact h2 W X s F E q
  · rw [hc] at q; exact Bool.noConfusion q
  · rw [hc] at q; exact pi_any (h W X s F E q).1
  · rw [hc] at q; exact Bool.noConfusion q
  · rw [hc] at q; exact Bool.noConfusion q
theorem Snd.no {e : Ex} (hc : chk e = .no) : Snd ca ea T e := by
  refine ⟨fun W X s F E q => ?_, fun W X s F E q => ?_, fun W X s F es q => ?_, fun W X s F tg E q => ?_, fun W X s F m p pos E hg q => ?_, fun W X s F kws q => ?_⟩ <;> (rw [hc] at q; exact Bool.noConfusion q)
/-! ### the cases -/
theorem snd_var (i : Nat) : Snd ca ea T (.var i) := Snd.v rfl fun W X s F E q => by
  cases E <;> first | (exact Bool.noConfusion q) | skip
  simp only [Bool.and_eq_true, beq_iff_eq, okName, bne_iff_ne, ne_eq] at q
  obtain ⟨⟨h1, h2⟩, h3, h4⟩ := q
  exact ⟨pd_var (by rw [F.hN]; exact h1) (F.Vis h2) (by simpa using h3) (by simpa using h4) T, rfl⟩
theorem snd_kn : Snd ca ea T .kn := Snd.v rfl fun W X s F E q => by
  cases E <;> first | (exact Bool.noConfusion q) | skip
  rename_i c j p
  cases c <;> first | (exact Bool.noConfusion q) | skip
  exact ⟨pd_const pe_non fun w => Rep.non, rfl⟩
theorem snd_kb (b : Bool) : Snd ca ea T (.kb b) := Snd.v rfl fun W X s F E q => by
  cases E <;> first | (exact Bool.noConfusion q) | skip
  rename_i c j p
  cases c <;> first | (exact Bool.noConfusion q) | skip
  have e := beq_iff_eq.mp q
  subst e
  exact ⟨pd_const pe_bl fun w => Rep.bl _, rfl⟩
theorem snd_ki (b : Int) : Snd ca ea T (.ki b) := Snd.v rfl fun W X s F E q => by
  cases E <;> first | (exact Bool.noConfusion q) | skip
  rename_i c j p
  cases c <;> first | (exact Bool.noConfusion q) | skip
  have e := beq_iff_eq.mp q
  subst e
  exact ⟨pd_const pe_int fun w => Rep.int _, rfl⟩
theorem snd_ks (b : Str) : Snd ca ea T (.ks b) := Snd.v rfl fun W X s F E q => by
  cases E <;> first | (exact Bool.noConfusion q) | skip
  rename_i c j p
  cases c <;> first | (exact Bool.noConfusion q) | skip
  rw [Bool.and_eq_true] at q
  have e := beq_iff_eq.mp q.1
  subst e
  exact ⟨pd_const pe_str fun w => Rep.str q.2, rfl⟩
end
end Dy
end

section
set_option linter.all false
set_option maxRecDepth 100000
set_option maxHeartbeats 2000000
set_option Elab.async false
namespace Dy
open PySem PySem.Spec PyProof.Rows L2
section
variable {ca : Str → Addr} {ea : Ec} {W : Option WX} {T : Cl} {X : Cx} {s : SE}
theorem snd_glo (x : Str) : Snd ca ea T (.glo x) := Snd.v rfl fun W X s F E q => by
  cases E <;> first | (exact Bool.noConfusion q) | skip
  rename_i y p
  have q : (x == y && s.glo x && okName x) = true := q
  simp only [Bool.and_eq_true, beq_iff_eq, okName, bne_iff_ne, ne_eq] at q
  obtain ⟨⟨rfl, h2⟩, h3, h4⟩ := q
  refine ⟨?_, rfl⟩
  cases hd : T.gl x with
  | none =>
    refine ⟨fun pins st σ H Q I p => ?_⟩
    obtain ⟨w, σ', h, _, _, _, p⟩ := p
    simp only [evalE, hd] at p
    exact False.elim p
  | some d =>
    obtain ⟨v, u, hm, ru, rp⟩ := F.glo x d hd
    have : PE X (.Name x p) (tE (kX X ca ea) W fun _ h => .ok d h) := pd_const (pe_glob (F.Gl h2) hm ru (by simpa using h3)) rp
    refine PE.imp this fun σV H Q p => p.eq fun σ h => ?_
    simp only [evalE, hd]; rfl
theorem snd_bin (m : Bool) (o : Bo) {a b : Ex} (ha : Snd ca ea T a) (hb : Snd ca ea T b) : Snd ca ea T (.bin m o a b) := Snd.v rfl fun W X s F E q => by
  cases E <;> first | (exact Bool.noConfusion q) | skip
  rename_i A op B p
  have q : (opIs o op && (chk a).E s A && (chk b).E s B) = true := q
  simp only [Bool.and_eq_true] at q
  obtain ⟨⟨h1, h2⟩, h3⟩ := q
  have pa := (ha.oE W X s F A h2).1
  have pb := (hb.oE W X s F B h3).1
  have key : OpR X (binaryOp op) (r2 (kX X ca ea) W (binD m o)) → PE X (.BinOp A op B p) (tE (kX X ca ea) W (evalE T (.bin m o a b))) ∧ notStar (.BinOp A op B p) = true := fun ho =>
    ⟨PE.imp (pe_two ho pa pb) fun σV H Q p => p.eq fun σ h => by simp only [evalE], rfl⟩
  cases o <;> cases op <;> first | (exact Bool.noConfusion h1) | skip
  · exact key op_addD
  · exact key op_subD
  · exact key op_mulD
  · exact key op_fdivD
  · exact key op_modD
  · exact key op_powD
theorem snd_neg {a : Ex} (ha : Snd ca ea T a) : Snd ca ea T (.neg a) := Snd.v rfl fun W X s F E q => by
  cases E <;> first | (exact Bool.noConfusion q) | skip
  rename_i op A p
  cases op <;> first | (exact Bool.noConfusion q) | skip
  exact ⟨PE.imp (ped_neg (ha.oE W X s F A q).1) fun σV H Q p => p.eq fun σ h => by
    simp only [evalE] <;> (cases evalE T a σ h <;> first | rfl | (rename_i x _; cases x <;> rfl)), rfl⟩
theorem nomark {op : CmpOp} {B : Expr} (h : notSet B = true) : behindInMarks op B = false := by
  cases B <;> first | (exact Bool.noConfusion h) | rfl
theorem nomark2 {op op' : CmpOp} {B C : Expr} (h : notSet C = true) : lastMarks [op, op'] [B, C] = false := by
  show behindInMarks op' C = false
  exact nomark h
theorem co_op {o : Co} {op : CmpOp} {k : Cx} (F : Fit W T (kX X ca ea) X s) (h : coIs o op = true) : OpR X (compareOp op) (r2 (kX X ca ea) W (cmpR o)) := by
  have u1 : X.A.units + 64 < cLine := by have := F.units; omega
  have u2 : X.A.units + 100 < cLine := by have := F.units; omega
  cases o <;> cases op <;> first | (exact Bool.noConfusion h) | skip
  · exact op_eqDD u1
  · exact op_neDD u1
  · exact op_ltD
  · exact op_leD
  · exact op_gtD
  · exact op_geD
  · exact op_isD
  · exact op_isnD
  · exact op_inD u2
  · exact op_ninD u2
theorem ckCmp_inv {o : Co} {a b : SE → Expr → Bool} {E : Expr} (q : ckCmp o a b s E = true) : ∃ A op B p, E = .Compare A [op] [B] p ∧ coIs o op = true ∧ notSet B = true ∧ a s A = true ∧ b s B = true := by
  unfold ckCmp at q
  split at q
  · simp only [Bool.and_eq_true] at q
    exact ⟨_, _, _, _, rfl, q.1.1.1, q.1.1.2, q.1.2, q.2⟩
  · cases q
theorem snd_cmp (o : Co) {a b : Ex} (ha : Snd ca ea T a) (hb : Snd ca ea T b) : Snd ca ea T (.cmp o a b) := Snd.b rfl (fun W X s F E q => by
    obtain ⟨A, op, B, p, rfl, h1, h2, h3, h4⟩ := ckCmp_inv q
    exact ⟨PE.imp (pe_comp (co_op (k := X) F h1) (ha.oE W X s F A h3).1 (hb.oE W X s F B h4).1 (nomark h2)) fun σV H Q p => p.eq fun σ h => by simp only [evalE], rfl⟩)
  fun W X s F E q => by
    obtain ⟨A, op, B, p, rfl, h1, h2, h3, h4⟩ := ckCmp_inv q
    exact PT.imp (ptd_cmp (co_op (k := X) F h1) (ha.oE W X s F A h3).1 (hb.oE W X s F B h4).1 (nomark h2)) fun σV H Q p => p.eq fun σ h => by simp only [rT, evalE]
theorem ckCmp2_inv {o o' : Co} {a b c : SE → Expr → Bool} {E : Expr} (q : ckCmp2 o o' a b c s E = true) : ∃ A op op' B C p, E = .Compare A [op, op'] [B, C] p ∧ coIs o op = true ∧ coIs o' op' = true ∧ notSet C = true ∧ a s A = true ∧ b s B = true ∧ c s C = true := by
  unfold ckCmp2 at q
  split at q
  · simp only [Bool.and_eq_true] at q
    exact ⟨_, _, _, _, _, _, rfl, q.1.1.1.1.1, q.1.1.1.1.2, q.1.1.1.2, q.1.1.2, q.1.2, q.2⟩
  · cases q
theorem snd_cmp2 (o o' : Co) {a b c : Ex} (ha : Snd ca ea T a) (hb : Snd ca ea T b) (hc : Snd ca ea T c) : Snd ca ea T (.cmp2 o o' a b c) := Snd.b rfl (fun W X s F E q => by
    obtain ⟨A, op, op', B, C, p, rfl, h1, h2, h3, h4, h5, h6⟩ := ckCmp2_inv q
    exact ⟨PE.imp (ped_cmp2 (co_op (k := X) F h1) (co_op (k := X) F h2) (ha.oE W X s F A h4).1 (hb.oE W X s F B h5).1 (hc.oE W X s F C h6).1 (nomark2 h3)) fun σV H Q p => p.eq fun σ h => by simp only [evalE], rfl⟩)
  fun W X s F E q => by
    obtain ⟨A, op, op', B, C, p, rfl, h1, h2, h3, h4, h5, h6⟩ := ckCmp2_inv q
    exact PT.imp (ptd_cmp2 (co_op (k := X) F h1) (co_op (k := X) F h2) (ha.oE W X s F A h4).1 (hb.oE W X s F B h5).1 (hc.oE W X s F C h6).1 (nomark2 h3)) fun σV H Q p => p.eq fun σ h => by simp only [rT, evalE]
theorem snd_not {a : Ex} (ha : Snd ca ea T a) : Snd ca ea T (.not a) := Snd.b rfl (fun W X s F E q => by
    unfold ckNot at q
    split at q
    · exact ⟨PE.imp (ped_not (ha.oE W X s F _ q).1) fun σV H Q p => p.eq fun σ h => by simp only [evalE], rfl⟩
    · cases q)
  fun W X s F E q => by
    unfold ckNot at q
    split at q
    · exact PT.imp (ptd_not (ha.oT W X s F _ q)) fun σV H Q p => p.eq fun σ h => by simp only [rT, evalE]
    · cases q
theorem ckBool_inv {c : Bool} {a b : SE → Expr → Bool} {E : Expr} (q : ckBool c a b s E = true) : ∃ op A B R p, E = .BoolOp op (A :: B :: R) p ∧ op = (if c then .And else .Or) ∧ a s A = true ∧ ((R = [] ∧ b s B = true) ∨ (R ≠ [] ∧ b s (.BoolOp op (B :: R) p) = true)) := by
  unfold ckBool at q
  split at q
  · rename_i op A B R p
    simp only [Bool.and_eq_true] at q
    obtain ⟨⟨h1, h2⟩, h3⟩ := q
    refine ⟨op, A, B, R, p, rfl, ?_, h2, ?_⟩
    · cases op <;> cases c <;> first | rfl | (exact Bool.noConfusion h1)
    · cases R with
      | nil => exact .inl ⟨rfl, h3⟩
      | cons _ _ => exact .inr ⟨by simp, h3⟩
  · cases q
theorem snd_and {a b : Ex} (ha : Snd ca ea T a) (hb : Snd ca ea T b) : Snd ca ea T (.and a b) := Snd.b rfl (fun W X s F E q => by
    obtain ⟨op, A, B, R, p, rfl, rfl, h2, h3⟩ := ckBool_inv q
    refine ⟨PE.imp (ped_and (ha.oE W X s F A h2).1 (?_ : PE X (.BoolOp .And (B :: R) p) (tE (kX X ca ea) W (evalE T b)))) fun σV H Q p => p.eq fun σ h => by simp only [evalE], rfl⟩
    rcases h3 with ⟨rfl, h3⟩ | ⟨_, h3⟩
    · exact pe_one (hb.oE W X s F B h3).1
    · exact (hb.oE W X s F _ h3).1)
  fun W X s F E q => by
    obtain ⟨op, A, B, R, p, rfl, rfl, h2, h3⟩ := ckBool_inv q
    refine PT.imp (ptd_and (ha.oT W X s F A h2) (?_ : PW X (.BoolOp .And (B :: R) p) (tT (kX X ca ea) W (rT (evalE T b))))) fun σV H Q p => p.eq fun σ h => by simp only [rT, evalE]
    rcases h3 with ⟨rfl, h3⟩ | ⟨_, h3⟩
    · exact pw_and1 (hb.oT W X s F B h3)
    · exact pw_of_pt (hb.oT W X s F _ h3)
theorem snd_or {a b : Ex} (ha : Snd ca ea T a) (hb : Snd ca ea T b) : Snd ca ea T (.or a b) := Snd.b rfl (fun W X s F E q => by
    obtain ⟨op, A, B, R, p, rfl, rfl, h2, h3⟩ := ckBool_inv q
    refine ⟨PE.imp (ped_or (ha.oE W X s F A h2).1 (?_ : PE X (.BoolOp .Or (B :: R) p) (tE (kX X ca ea) W (evalE T b)))) fun σV H Q p => p.eq fun σ h => by simp only [evalE], rfl⟩
    rcases h3 with ⟨rfl, h3⟩ | ⟨_, h3⟩
    · exact pe_one (hb.oE W X s F B h3).1
    · exact (hb.oE W X s F _ h3).1)
  fun W X s F E q => by
    obtain ⟨op, A, B, R, p, rfl, rfl, h2, h3⟩ := ckBool_inv q
    refine PT.imp (ptd_or (ha.oT W X s F A h2) (?_ : PW X (.BoolOp .Or (B :: R) p) (tT (kX X ca ea) W (rT (evalE T b))))) fun σV H Q p => p.eq fun σ h => by simp only [rT, evalE]
    rcases h3 with ⟨rfl, h3⟩ | ⟨_, h3⟩
    · exact pw_or1 (hb.oT W X s F B h3)
    · exact pw_of_pt (hb.oT W X s F _ h3)
theorem snd_ife {t a b : Ex} (ht : Snd ca ea T t) (ha : Snd ca ea T a) (hb : Snd ca ea T b) : Snd ca ea T (.ife t a b) := Snd.v rfl fun W X s F E q => by
  cases E <;> first | (exact Bool.noConfusion q) | skip
  rename_i C A B p
  have q : ((chk t).T s C && (chk a).E s A && (chk b).E s B) = true := q
  simp only [Bool.and_eq_true] at q
  refine ⟨PE.imp (ped_ife (ht.oT W X s F C q.1.1) (ha.oE W X s F A q.1.2).1 (hb.oE W X s F B q.2).1) fun σV H Q p => p.eq fun σ h => ?_, rfl⟩
  simp only [evalE, rT]
  cases evalE T t σ h <;> rfl
end
end Dy
end

section
set_option linter.all false
set_option maxRecDepth 100000
set_option maxHeartbeats 1000000
set_option Elab.async false
/-! Dy: dict(x) of lists and tuples of pairs. -/
namespace Dy
open PySem PySem.Spec PyProof.Rows L2
/-- a tuple without a dict -/
def SqT0 (K : PySem.W.Frag) (H : Hp) (a : Addr) (vs : List V) : Prop := (∃ o : Obj, o.dict = none ∧ H a = some (.frz o (.tup vs))) ∨
  ∃ (o : Obj) (its : Array Value) (n : Nat), o.dict = none ∧ K.lookup a = some o ∧ o.cls = .type "tuple" ∧ o.data = .seq its n ∧ its.size ≤ sizeLine ∧ Vals vs its.toList
theorem StT.sq0 {K : PySem.W.Frag} {w : Wd} {a : Addr} {vs : List V} (h : StT K w a vs) : SqT0 K w.H a vs := h.imp (fun ⟨o, d, e, _⟩ => ⟨o, d, e⟩) id
section
variable {X : Cx} {pins : List (Addr × Obj)} {σ : L2.St} {H : Hp} {s : Shared}
theorem plainT0 (I : Inv X pins σ H s) {a : Addr} {vs : List V} (h : SqT0 X.K H a vs) : ∃ its : List Value, Vals vs its ∧ PlainSeq "tuple" s.heap a its.toArray ∧ vs.length ≤ sizeLine := by
  rcases h with ⟨o, d, e⟩ | ⟨o, its, n, d, hk, hc, hs, hz, r⟩
  · obtain ⟨x1, hz, us, rv, o', y1, y2, n, y3⟩ := (show ObjOk X.prog X.w H s.heap a (.frz o (.tup vs)) from I.hok a _ e)
    have : o' = o := Option.some.inj (y1.symm.trans x1)
    subst this
    exact ⟨us, rv, ⟨o', n, x1, y2, d, y3⟩, hz⟩
  · refine ⟨its.toList, r, ⟨o, n, I.kIn a o hk, hc, d, by simpa using hs⟩, ?_⟩
    have e := r.length
    simp only [Array.length_toList] at e
    omega
end
section
variable {X : Cx}
/-- dict(xs) of a list, a tuple of pairs (key, value) -/
theorem call_dictQ (hcalm : X.calm = true) : CallR X (.type "dict") (fun xs H Q => ∃ (a : Addr) (ps : List Addr) (kvs : List (Key × V)), xs = [.ref a] ∧ (SqL X.K H a (ps.map V.ref) ∨ SqT0 X.K H a (ps.map V.ref)) ∧ Paired (fun p kv => SqT X.K H p [kV kv.1, kv.2]) ps kvs ∧
    ∀ p, H p = none → Q (.ref p) (upd H p (.dK (mergeK [] kvs)))) := by
  intro pins s σ H xs us Q I r q
  obtain ⟨a, ps, kvs, ex, hq | hq, hp, q⟩ := q
  · exact call_dictP hcalm pins s σ H xs us Q I r ⟨a, ps, kvs, ex, hq, hp, q⟩
  subst ex
  obtain ⟨u, eu, rx⟩ := vals1 r
  subst eu
  cases rx
  obtain ⟨its, rv, pl, hz⟩ := plainT0 I hq
  have ei := refs_at rv
  subst ei
  rw [List.length_map] at hz
  obtain ⟨prs, rel, hl, hpr⟩ := pairs_of I hp
  have hex : ∀ j : Nat, ∃ (u : Value), ∀ q : Key × Value, prs[j]? = some q → ∃ b, ps[j]? = some b ∧ IsTup s.heap b #[u, q.2] ∧ keyIs q.1 u = true := fun j => by
    cases e : prs[j]? with
    | none => exact ⟨.none, fun q z => by cases z⟩
    | some q0 =>
      obtain ⟨b, u, e1, e2, e3⟩ := hpr j q0 e
      exact ⟨u, fun q z => by cases z; exact ⟨b, e1, e2, e3⟩⟩
  obtain ⟨ku, hku⟩ : ∃ ku : Nat → Value, ∀ j : Nat, ∀ q : Key × Value, prs[j]? = some q → ∃ b, ps[j]? = some b ∧ IsTup s.heap b #[ku j, q.2] ∧ keyIs q.1 (ku j) = true := ⟨fun j => (hex j).choose, fun j => (hex j).choose_spec⟩
  obtain ⟨pv, hpv⟩ : ∃ pv : List (Value × Value), pv = prs.zipIdx.map fun p => (ku p.2, p.1.2) := ⟨_, rfl⟩
  have pvg : ∀ j : Nat, pv[j]? = (prs[j]?).map fun q => (ku j, q.2) := fun j => by
    rw [hpv, List.getElem?_map, List.getElem?_zipIdx, Option.map_map, Nat.zero_add]; rfl
  have pvl : pv.length = prs.length := by rw [hpv]; simp
  refine PySem.call_dict_pairs (knd := mixKind X.prog X.w) (kvs := prs) (PairArg.tuple a ((ps.map Value.ref).toArray) (fun j => (ps[j]?).getD 0) pv) (I.ok.hd hcalm) ⟨pl, by rw [pvl]; simp [hl], fun j kk vv e => ?_⟩ ⟨pvl.symm, fun j kk vv e => ?_⟩ (by rw [pvl, hl]; exact hz) fun h' tk hd' k => ?_
  · rw [pvg] at e
    obtain ⟨q, e1, e2⟩ := Option.map_eq_some_iff.mp e
    cases e2
    obtain ⟨b, f1, f2, f3⟩ := hku j q e1
    refine ⟨by simp [f1], .inl ?_⟩
    show s.heap.IsTuple ((ps[j]?).getD 0) _
    rw [f1]
    exact f2
  · have e : pv[j]? = some (kk, vv) := e
    rw [pvg] at e
    obtain ⟨q, e1, e2⟩ := Option.map_eq_some_iff.mp e
    cases e2
    obtain ⟨b, f1, f2, f3⟩ := hku j q e1
    exact ⟨q.1, e1, f3⟩
  · have hm : (s.heap.objs.size == sysModules) = false := beq_eq_false_iff_ne.mpr (Nat.ne_of_gt I.big)
    have hlen : (mergeK [] kvs).length ≤ sizeLine := by
      refine Nat.le_trans (length_mergeK kvs []) ?_
      rw [List.length_nil, Nat.zero_add, rel.length, hl]
      exact hz
    exact ⟨.ref s.heap.objs.size, upd H s.heap.objs.size (.dK (mergeK [] kvs)), I.laid (t' := tk) (fun b o z => k b o (by simp) z) (Nat.le_refl _) (show ObjOk X.prog X.w _ _ _ (.dK (mergeK [] kvs)) from ⟨hlen, hm, merged [] prs, KV.merge rel .nil, hd'⟩), rfl, q _ (I.hok.fresh (Nat.le_refl _))⟩
end
section
variable {k : Kx} {W : Option WX} {w : Wd} {h : Hh} {σV : L2.St}
/-- a dict laid at a new place -/
theorem post.dct {m : Bool} {l : List (D × D)} {kvs : List (Key × V)} {Q : VK} (p : post k W (Rep k) w σV (mkD m l h) Q) (q : WR k w h) (r : RepP k w l kvs) {a : Addr} (ha : w.H a = none) : Q (.ref a) (upd w.H a (.dK kvs)) := by
  cases m with
  | false =>
    have x := q.le_put (o := .dK kvs) ha
    refine p.ok x (q.put ha) (b := .ref a) ?_
    simp only [Rep]
    exact ⟨a, _, rfl, ⟨upd_same, q.nL ha⟩, .inl ⟨kvs, rfl, RepP.mono x.li _ _ r⟩⟩
  | true =>
    have x := q.le_new (o := .dK kvs) ha
    have q2 : WR k (w.new a (.dK kvs)) (h ++ [.dct l]) := q.new ha ⟨.dK kvs, upd_same, .inl ⟨kvs, rfl, RepP.mono x.li l kvs r⟩⟩ rfl
    exact p.ok x q2 (new_ref q)
theorem putK_nd {κ : Type} [DecidableEq κ] {kvs : List (κ × V)} {key : κ} {v : V} (nd : (kvs.map (·.1)).Nodup) : ((L2.putK kvs key v).map (·.1)).Nodup := by
  unfold L2.putK
  split
  · have : (kvs.map fun kv => if kv.1 = key then (kv.1, v) else kv).map (·.1) = kvs.map (·.1) := by
      rw [List.map_map]
      apply List.map_congr_left
      intro p _
      simp only [Function.comp]
      split <;> rfl
    rw [this]; exact nd
  · rename_i e
    rw [List.map_append, List.nodup_append]
    refine ⟨nd, by simp, fun a ha b hb => ?_⟩
    simp only [List.map_cons, List.map_nil, List.mem_singleton] at hb
    subst hb
    obtain ⟨p, hp, rfl⟩ := List.mem_map.mp ha
    intro z
    exact e (List.any_eq_true.mpr ⟨p, hp, decide_eq_true z⟩)
/-- pairs, put one by one -/
theorem RepP.merge : ∀ {more : List (D × D)} {ms : List (Key × V)} {l : List (D × D)} {kvs : List (Key × V)}, RepP k w more ms → RepP k w l kvs → (kvs.map (·.1)).Nodup → RepP k w (more.foldl (fun m p => Dy.putK p.1 p.2 m) l) (mergeK kvs ms)
  | [], ms, l, kvs, r, r2, nd => by simp only [RepP] at r; subst r; exact r2
  | (kd, d) :: more, ms, l, kvs, r, r2, nd => by
    simp only [RepP] at r
    obtain ⟨key, v, vr, rfl, rfl, r0, r1, r3⟩ := r
    exact RepP.merge (more := more) (ms := vr) r3 (RepP.put key r0 r1 r2 nd) (putK_nd nd)
/-- a row of pairs -/
theorem pairsOf_rep (q : WR k w h) : ∀ {l : List D} {m : List (D × D)} {vs : List V}, pairsOf l = some m → RepL k w l vs → ∃ (ps : List Addr) (kvs : List (Key × V)), vs = ps.map V.ref ∧ Paired (fun p kv => SqT k.K w.H p [kV kv.1, kv.2]) ps kvs ∧ RepP k w m kvs
  | [], m, vs, e, r => by
    cases e
    rw [r.nil']
    exact ⟨[], [], rfl, .nil, by simp only [RepP]⟩
  | d :: l, m, vs, e, r => by
    simp only [RepL] at r
    obtain ⟨v, vr, rfl, r1, r2⟩ := r
    unfold pairsOf at e
    split at e
    · rename_i e2; cases e2
    · rename_i a b l' e2
      cases e2
      split at e
      · rename_i hs
        obtain ⟨m', e3, rfl⟩ := Option.map_eq_some_iff.mp e
        obtain ⟨ps, kvs, rfl, p1, p2⟩ := pairsOf_rep q e3 r2
        obtain ⟨p, us, rfl, h1, rl⟩ := r1.tupI
        obtain ⟨x, y, rfl, rx, ry⟩ := rl.two'
        obtain ⟨key, rfl⟩ := sc_keyD hs
        have := rx.key; subst this
        exact ⟨p :: ps, (key, y) :: kvs, rfl, .cons h1.sq p1, by simp only [RepP]; exact ⟨key, y, kvs, rfl, rfl, rx, ry, p2⟩⟩
      · cases e
    · cases e
/-- dict(x) -/
theorem bl_dict {X : Cx} {ca : Str → Addr} {ea : Ec} {m : Bool} (hc : X.calm = true) : CallR X (.type "dict") (bR ca ea X W m .dict) := by
  intro pins s σ H xs us Q I r ⟨w, h, l, σV, e, q, rl, p⟩
  subst e
  match l, rl with
  | [], _ => exact False.elim p
  | _ :: _ :: _, _ => exact False.elim p
  | [a], rl =>
    obtain ⟨x, rfl, ra⟩ := rl.one'
    simp only [bltD] at p
    cases hn : seqOf h a with
    | none => rw [hn] at p; exact False.elim p
    | some l =>
      cases hm : pairsOf l with
      | none => rw [hn] at p; simp only [Option.bind_some, hm] at p; exact False.elim p
      | some kvl =>
        rw [hn] at p
        simp only [Option.bind_some, hm, R.opt_some, R.bind_ok] at p
        split at p
        · rename_i hz
          have go : ∀ {b : Addr} {vs : List V}, x = .ref b → RepL (kX X ca ea) w l vs → (SqL X.K w.H b vs ∨ SqT0 X.K w.H b vs) → wpAny (model X.prog X.w) X.A (call (.type "dict") us) (EP X pins σ Q) X.xe s := fun {b vs} ex rv hq => by
            subst ex
            obtain ⟨ps, kvs, rfl, p1, p2⟩ := pairsOf_rep q hm rv
            exact call_dictQ hc pins s σ _ _ us Q I r ⟨b, ps, kvs, rfl, hq, p1, fun c hc => p.dct q (RepP.merge (l := []) (kvs := []) p2 (by simp only [RepP]) List.nodup_nil) hc⟩
          by_cases nt : ∀ m, a ≠ .tup m
          · obtain ⟨b, vs, ex, h1, r1⟩ := q.list hn nt ra
            exact go ex r1 (.inl (SqL.of h1))
          · have : ∃ m, a = .tup m := by
              cases a <;> first | exact ⟨_, rfl⟩ | exact absurd (fun m z => by cases z) nt
            obtain ⟨m, rfl⟩ := this
            simp only [seqOf] at hn; cases hn
            obtain ⟨b, vs, ex, h1, r1⟩ := ra.tupI
            exact go ex r1 (.inr h1.sq0)
        · exact False.elim p
end
end Dy
end

section
set_option linter.all false
set_option maxRecDepth 100000
set_option maxHeartbeats 2000000
set_option Elab.async false
namespace Dy
open PySem PySem.Spec PyProof.Rows L2
section
variable {ca : Str → Addr} {ea : Ec} {W : Option WX} {T : Cl} {X : Cx} {s : SE}
theorem small1000 {n : Nat} (h : decide (n ≤ 1000) = true) : n ≤ sizeL := by
  have := of_decide_eq_true h
  have e : sizeL = 16777216 := rfl
  omega
theorem snd_tup {a : Ex} (ha : Snd ca ea T a) : Snd ca ea T (.tup a) := Snd.v rfl fun W X s F E q => by
  cases E <;> first | (exact Bool.noConfusion q) | skip
  rename_i Es c p
  have q : ((chk a).L s Es && decide (Es.length ≤ 1000)) = true := q
  rw [Bool.and_eq_true] at q
  obtain ⟨h1, h2, h3⟩ := ha.oL W X s F Es q.1
  exact ⟨PE.imp (ped_tup h1 h2 (small1000 q.2)) fun σV H Q p => p.eq fun σ h => by simp only [evalE], rfl⟩
theorem snd_lst (m : Bool) {a : Ex} (ha : Snd ca ea T a) : Snd ca ea T (.lst m a) := Snd.v rfl fun W X s F E q => by
  cases E <;> first | (exact Bool.noConfusion q) | skip
  rename_i Es p
  have q : ((chk a).L s Es && decide (Es.length ≤ 1000)) = true := q
  rw [Bool.and_eq_true] at q
  obtain ⟨h1, h2, h3⟩ := ha.oL W X s F Es q.1
  exact ⟨PE.imp (ped_lst (m := m) h1 h2 (small1000 q.2)) fun σV H Q p => p.eq fun σ h => by simp only [evalE], rfl⟩
theorem snd_nil : Snd ca ea T .nil := by
  refine ⟨fun W X s F E q => Bool.noConfusion q, fun W X s F E q => Bool.noConfusion q, fun W X s F es q => ?_, fun W X s F tg E q => Bool.noConfusion q, fun W X s F m p pos E hg q => Bool.noConfusion q, fun W X s F kws q => ?_⟩
  have q : es.isEmpty = true := q
  rw [List.isEmpty_iff] at q
  subst q
  exact ⟨PA.imp pad_nil fun σV H Q p => p.eq fun σ h => by simp only [rowE, evalE], fun σ h d h' e => rowN_nil σ h d h' (by simpa only [evalE] using e), rfl⟩
  cases kws with
  | cons k kws => exact Bool.noConfusion q
  | nil =>
    exact PK.imp (pk_nil (X := X)) fun σV H Q ⟨w, σ, h, e, q, s, p⟩ => by
      replace p : post (kX X ca ea) W (RepL (kX X ca ea)) w σV (rowR (evalE T .nil σ h)) Q := p
      simp only [evalE] at p
      exact e ▸ p.here q RepL.nil
theorem snd_cons {a b : Ex} (ha : Snd ca ea T a) (hb : Snd ca ea T b) : Snd ca ea T (.cons a b) := by
  refine ⟨fun W X s F E q => Bool.noConfusion q, fun W X s F E q => Bool.noConfusion q, fun W X s F es q => ?_, fun W X s F tg E q => Bool.noConfusion q, fun W X s F m p pos E hg q => Bool.noConfusion q, fun W X s F kws q => ?_⟩
  · cases es with
    | nil => exact Bool.noConfusion q
    | cons E es =>
      have q : (notStar E && (chk a).E s E && (chk b).L s es) = true := q
      simp only [Bool.and_eq_true] at q
      obtain ⟨⟨h0, h1⟩, h2⟩ := q
      obtain ⟨g1, g2, g3⟩ := hb.oL W X s F es h2
      refine ⟨PA.imp (pad_cons (ha.oE W X s F E h1).1 g1 h0) fun σV H Q p => p.eq fun σ h => by simp only [rowE, evalE], fun σ h d h' e => rowN_cons g2 σ h d h' (by simpa only [evalE] using e), by simp [h0, g3]⟩
  · cases kws with
    | nil => exact Bool.noConfusion q
    | cons k kws =>
      obtain ⟨nm, E, kp⟩ := k
      have q : (notStar E && (chk a).E s E && (chk b).L s (kwVals kws)) = true := q
      simp only [Bool.and_eq_true] at q
      obtain ⟨⟨h0, h1⟩, h2⟩ := q
      refine PK.imp (pk_cons (nm := nm) (kpos := kp) (ha.oE W X s F E h1).1 (hb.oK W X s F kws h2)) fun σV H Q p => ?_
      have p : tA (kX X ca ea) W (fun σ h => (evalE T a σ h).bind fun x h => (rowR (evalE T b σ h)).bind fun l h => .ok (x :: l) h) σV H Q := p.eq fun σ h => by
        show rowR (evalE T (.cons a b) σ h) = _
        simp only [evalE]
        cases evalE T a σ h with
        | bad => rfl
        | ex c l h1 => rfl
        | ok x h1 =>
          show rowR ((evalE T b σ h1).bind fun y h => .ok (.tup (x :: asTup y)) h) = (rowR (evalE T b σ h1)).bind fun l h => .ok (x :: l) h
          cases evalE T b σ h1 <;> rfl
      refine (tX.bind (Rm := Rep (kX X ca ea)) p).imp fun x H1 ⟨w1, σ, a, h1, e1, q1, s1, r1, p1⟩ => ?_
      refine ⟨w1, σ, h1, e1, q1, s1, (p1.bind (Rm := RepL (kX X ca ea))).imp fun xs H2 ⟨w2, l, h2, e2, x2, q2, r2, p2⟩ => ?_⟩
      subst e2
      exact p2.here q2 (.cons (Rep.mono x2.li _ _ r1) r2)
theorem plainIx_ok {b : Expr} (h : plainIx b = true) : PlainIx b := by
  cases b <;> first | (exact Bool.noConfusion h) | (exact fun _ _ => rfl)
theorem snd_sub {a b : Ex} (ha : Snd ca ea T a) (hb : Snd ca ea T b) : Snd ca ea T (.sub a b) := Snd.v rfl fun W X s F E q => by
  cases E <;> first | (exact Bool.noConfusion q) | skip
  rename_i O I p
  have q : (plainIx I && (chk a).E s O && (chk b).E s I) = true := q
  simp only [Bool.and_eq_true] at q
  exact ⟨PE.imp (ped_sub (by have := F.units; omega) (ha.oE W X s F O q.1.2).1 (hb.oE W X s F I q.2).1 (plainIx_ok q.1.1)) fun σV H Q p => p.eq fun σ h => by simp only [evalE], rfl⟩
theorem kn_of {e : Ex} (h : e.isKn = true) : e = .kn := by
  cases e <;> first | (exact Bool.noConfusion h) | rfl
theorem bound_ok (F : Fit W T (kX X ca ea) X s) {e : Ex} (he : Snd ca ea T e) {o : Option Expr} (q : (match o with
      | none => e.isKn
      | some E => !e.isKn && (chk e).E s E) = true) : PO X o (tO (kX X ca ea) W fun σ h => bdR e.isKn (evalE T e σ h)) := by
  cases o with
  | none =>
    have := kn_of q
    subst this
    exact PO.imp pod_none fun σV H Q p => p.eq fun σ h => by simp only [evalE, Ex.isKn]
  | some E =>
    have q : (!e.isKn && (chk e).E s E) = true := q
    rw [Bool.and_eq_true, Bool.not_eq_true'] at q
    rw [q.1]
    exact pod_some (he.oE W X s F E q.2).1
theorem snd_sli (m : Bool) {a lo hi : Ex} (ha : Snd ca ea T a) (hl : Snd ca ea T lo) (hh : Snd ca ea T hi) : Snd ca ea T (.sli m a lo hi) := Snd.v rfl fun W X s F E q => by
  split at q
  · rename_i O L H p2 p
    simp only [Bool.and_eq_true] at q
    obtain ⟨⟨q1, q2⟩, q3⟩ := q
    exact ⟨PE.imp (ped_sli (m := m) (ha.oE W X s F O q1).1 (bound_ok F hl q2) (bound_ok F hh q3)) fun σV H Q p => p.eq fun σ h => by simp only [evalE], rfl⟩
  · cases q
theorem snd_frz {a : Ex} (ha : Snd ca ea T a) : Snd ca ea T (.frz a) := Snd.v rfl fun W X s F E q => by
  have q : (chk a).E s E = true := q
  refine ⟨PE.imp (ped_frz (ha.oE W X s F E q).1) fun σV H Q p => p.eq fun σ h => ?_, (ha.oE W X s F E q).2⟩
  simp only [evalE, frzR] <;> (cases evalE T a σ h <;> first | rfl | (rename_i x _; cases x <;> rfl))
/-! ### built-ins -/
theorem bl_of (F : Fit W T (kX X ca ea) X s) {m : Bool} {b : Bl} (hb : b.has = true) (hc0 : (s.cm || !b.calm) = true) : (∃ id, CallR X (.builtin id) (bR ca ea X W m b) ∧ bootBuiltins (Str.ofString (blName b)) = some (.builtin id)) ∨ (∃ id, CallR X (.type id) (bR ca ea X W m b) ∧ bootBuiltins (Str.ofString (blName b)) = some (.type id)) := by
  have u : X.A.units + 70 < cLine := by have := F.units; omega
  cases b <;> first | (exact Bool.noConfusion hb) | skip
  · exact .inl ⟨_, bl_len, by rfl⟩
  · exact .inr ⟨_, bl_tuple, by rfl⟩
  · exact .inr ⟨_, bl_list (F.calm (by simpa [Bl.calm] using hc0)), by rfl⟩
  · exact .inl ⟨_, bl_all (F.calm (by simpa [Bl.calm] using hc0)), by rfl⟩
  · exact .inl ⟨_, bl_any (F.calm (by simpa [Bl.calm] using hc0)), by rfl⟩
  · exact .inl ⟨_, bl_sorted, by rfl⟩
  · exact .inr ⟨_, bl_int, by rfl⟩
  · exact .inr ⟨_, bl_str, by rfl⟩
  · exact .inl ⟨_, bl_max (F.calm (by simpa [Bl.calm] using hc0)), by rfl⟩
  · exact .inl ⟨_, bl_min (F.calm (by simpa [Bl.calm] using hc0)), by rfl⟩
  · exact .inl ⟨_, bl_abs, by rfl⟩
  · exact .inl ⟨_, bl_repr F.guards u, by rfl⟩
  · exact .inr ⟨_, bl_dict (F.calm (by simpa [Bl.calm] using hc0)), by rfl⟩
end
end Dy
end

section
set_option linter.all false
set_option maxRecDepth 100000
set_option maxHeartbeats 2000000
set_option Elab.async false
namespace Dy
open PySem PySem.Spec PyProof.Rows L2
section
variable {ca : Str → Addr} {ea : Ec} {W : Option WX} {T : Cl} {X : Cx} {s : SE}
theorem bl_mem {b : Bl} (hb : b.has = true) : Str.ofString (blName b) ∈ bltNames ∧ Str.ofString (blName b) ≠ "__name__" ∧ (Str.ofString (blName b) == ("__debug__" : Str)) = false := by
  cases b <;> first | (exact Bool.noConfusion hb) | skip
  all_goals exact ⟨by decide +kernel, by decide +kernel, by decide +kernel⟩
theorem snd_blt (m : Bool) (b : Bl) {es : Ex} (ha : Snd ca ea T es) : Snd ca ea T (.blt m b es) := Snd.v rfl fun W X s F E q => by
  split at q
  · rename_i x p Es pos
    simp only [Bool.and_eq_true, beq_iff_eq] at q
    obtain ⟨⟨⟨⟨⟨h1, h2⟩, rfl⟩, h4⟩, h5⟩, h6⟩ := q
    obtain ⟨m1, m2, m3⟩ := bl_mem h1
    obtain ⟨g1, g2, g3⟩ := ha.oL W X s F Es h6
    cases Es with
    | nil => exact Bool.noConfusion h5
    | cons A As =>
      refine ⟨?_, rfl⟩
      rcases bl_of (m := m) (ca := ca) (ea := ea) F h1 h2 with ⟨id, hc, hv⟩ | ⟨id, hc, hv⟩
      · exact PE.imp (ped_blt hc (F.Gl h4) (F.blt _ m1) hv g1 m2 m3 g3) fun σV H Q p => p.eq fun σ h => by simp only [evalE]
      · exact PE.imp (ped_bltT hc (F.Gl h4) (F.blt _ m1) hv g1 m2 m3 g3) fun σV H Q p => p.eq fun σ h => by simp only [evalE]
  · cases q
end
end Dy
end

section
set_option linter.all false
set_option maxRecDepth 100000
set_option maxHeartbeats 2000000
set_option Elab.async false
namespace Dy
open PySem PySem.Spec PyProof.Rows L2
section
variable {ca : Str → Addr} {ea : Ec} {W : Option WX} {T : Cl} {X : Cx} {s : SE}
theorem mt_of (Ft : Fit W T (kX X ca ea) X s) (m : Bool) {t : Mt} (h : mtName t ≠ "") : ∃ Ty id, PlainAttrs Ty ∧ Slot Ty (Str.ofString (mtName t)) id ∧ typeOf (.builtin id) = pure (.type "method_descriptor") ∧ MtR X id (mR ca ea X W m t) ∧
    ((t.kind = 0 ∧ Ty = "list") ∨ (t.kind = 1 ∧ Ty = "str")) := by
  have u : X.A.units + 65 < cLine := by have := Ft.units; omega
  cases t <;> first | (exact absurd rfl h) | skip
  · exact ⟨_, _, PySem.F.plainAttrs_list, PySem.F.slot_list_append, PySem.F.type_list_append, md_append, .inl ⟨rfl, rfl⟩⟩
  · exact ⟨_, _, PySem.F.plainAttrs_list, PySem.F.slot_list_extend, PySem.F.type_list_extend, md_extend, .inl ⟨rfl, rfl⟩⟩
  · exact ⟨_, _, PySem.F.plainAttrs_list, PySem.F.slot_list_pop, PySem.F.type_list_pop, md_pop0, .inl ⟨rfl, rfl⟩⟩
  · exact ⟨_, _, PySem.F.plainAttrs_list, PySem.F.slot_list_pop, PySem.F.type_list_pop, md_pop1, .inl ⟨rfl, rfl⟩⟩
  · exact ⟨_, _, PySem.F.plainAttrs_list, PySem.F.slot_list_insert, PySem.F.type_list_insert, md_insert, .inl ⟨rfl, rfl⟩⟩
  · exact ⟨_, _, PySem.F.plainAttrs_list, PySem.F.slot_list_clear, PySem.F.type_list_clear, md_clear, .inl ⟨rfl, rfl⟩⟩
  · exact ⟨_, _, PySem.F.plainAttrs_list, PySem.F.slot_list_index, PySem.F.type_list_index, md_index u, .inl ⟨rfl, rfl⟩⟩
  · exact ⟨_, _, PySem.F.plainAttrs_str, PySem.F.slot_str_join, PySem.F.type_str_join, md_join, .inr ⟨rfl, rfl⟩⟩
  · exact ⟨_, _, PySem.F.plainAttrs_str, PySem.F.slot_str_split, PySem.F.type_str_split, md_split, .inr ⟨rfl, rfl⟩⟩
  · exact ⟨_, _, PySem.F.plainAttrs_str, PySem.F.slot_str_upper, PySem.F.type_str_upper, md_upper, .inr ⟨rfl, rfl⟩⟩
  · exact ⟨_, _, PySem.F.plainAttrs_str, PySem.F.slot_str_partition, PySem.F.type_str_partition, md_partition, .inr ⟨rfl, rfl⟩⟩
theorem base_of {O : Expr} {name : Str} {env : Env} (h : notCall O = true) : attributeBase O name env (eval O env) = eval O env := by
  cases O <;> first | (exact Bool.noConfusion h) | rfl
theorem nil_row {r : Sl → Hh → R D} (h : RowN r 0) (σ : Sl) (x : Hh) {α : Type} (g : D → Hh → R α) : (r σ x).bind (fun a h => g a h) = (r σ x).bind fun _ h => g (.tup []) h := by
  cases e : r σ x with
  | ok d h1 => obtain ⟨l, rfl, hl⟩ := h _ _ _ _ e; cases l with
    | nil => rfl
    | cons _ _ => cases hl
  | ex _ _ _ => rfl
  | bad => rfl
theorem snd_met (m : Bool) (t : Mt) {o es : Ex} (ho : Snd ca ea T o) (ha : Snd ca ea T es) : Snd ca ea T (.met m t o es) := Snd.v rfl fun W X s F E q => by
  split at q
  · rename_i O name ap Es cp
    simp only [Bool.and_eq_true, beq_iff_eq, bne_iff_ne, ne_eq, decide_eq_true_eq] at q
    obtain ⟨⟨⟨⟨⟨⟨⟨rfl, h2⟩, h3⟩, h4⟩, h5⟩, h6⟩, h7⟩, h8⟩ := q
    obtain ⟨Ty, id, f1, f2, f3, f4, f5⟩ := mt_of F m h3
    obtain ⟨g1, g2, g3⟩ := ha.oL W X s F Es h8
    have po := (ho.oE W X s F O h7).1
    refine ⟨?_, rfl⟩
    cases Es with
    | nil =>
      have e0 : es = .nil := by
        cases es <;> first | rfl | (exact Bool.noConfusion h8)
      subst e0
      exact PE.imp (ped_met0 f1 f2 f3 f4 f5 po (base_of h4) (by simpa using h6)) fun σV H Q p => p.eq fun σ h => by simp only [evalE]
    | cons A As =>
      exact PE.imp (ped_met f1 f2 f3 f4 f5 po g1 (base_of h4) h5 (by simpa using h6) g3) fun σV H Q p => p.eq fun σ h => by simp only [evalE]
  · cases q
end
end Dy
end

section
set_option linter.all false
set_option maxRecDepth 100000
set_option maxHeartbeats 2000000
set_option Elab.async false
namespace Dy
open PySem PySem.Spec PyProof.Rows L2
section
variable {ca : Str → Addr} {ea : Ec} {W : Option WX} {T : Cl} {X : Cx} {s : SE}
/-! ### list(range(..)) -/
def tRgA (ta : TA) : L2.St → Hp → (Int → Int → Hp → Prop) → Prop := fun σ H Q => ta σ H fun vs H1 => (∃ j, vs = [.int j] ∧ Q 0 j H1) ∨ ∃ i j, vs = [.int i, .int j] ∧ Q i j H1
theorem prg_A1 {a : Expr} {ta : TA} {p pos : Pos} (hg : Gl X "range") (hm : X.mg "range" = none) (ha : PA X [a] ta) (hs : starEach [a] X.env = [(false, eval a X.env)]) : PRg X (.Call (.Name "range" p) [a] [] pos) (tRgA ta) := by
  intro pins s σ H Q I h
  refine Call_ (ld_blt I hg hm boot_range (PyProof.Rows.callWith_type1 (thn (ha.run pos pins s σ H _ I h) fun us s1 ⟨vs, H1, I1, r1, q1⟩ => ?_) hs rfl))
  rcases q1 with ⟨j, e, q⟩ | ⟨i, j, e, q⟩
  · subst e
    cases r1 with
    | cons r rr =>
      cases rr
      obtain ⟨t, rfl⟩ := r
      exact call_range_1 ⟨_, 0, j, _, _, _, H1, rfl, IsRange.new _ _ _ _ _ _ _, I1.kept fun b u e => Heap.get?_push_of_some _ e, q⟩
  · subst e
    cases r1 with
    | cons r rr =>
      cases rr with
      | cons r' rr =>
        cases rr
        obtain ⟨t, rfl⟩ := r
        obtain ⟨t', rfl⟩ := r'
        exact call_range_2 ⟨_, i, j, _, _, _, H1, rfl, IsRange.new _ _ _ _ _ _ _, I1.kept fun b u e => Heap.get?_push_of_some _ e, q⟩
theorem prg_A2 {a b : Expr} {ta : TA} {p pos : Pos} (hg : Gl X "range") (hm : X.mg "range" = none) (ha : PA X [a, b] ta) (hs : starEach [a, b] X.env = [(false, eval a X.env), (false, eval b X.env)]) (hs2 : starEach [b] X.env = [(false, eval b X.env)]) : PRg X (.Call (.Name "range" p) [a, b] [] pos) (tRgA ta) := by
  intro pins s σ H Q I h
  refine Call_ (ld_blt I hg hm boot_range (PyProof.Rows.callWith_type1 (thn (ha.run pos pins s σ H _ I h) fun us s1 ⟨vs, H1, I1, r1, q1⟩ => ?_) (by rw [hs, hs2]) (by rw [hs2]; rfl)))
  rcases q1 with ⟨j, e, q⟩ | ⟨i, j, e, q⟩
  · subst e
    cases r1 with
    | cons r rr =>
      cases rr
      obtain ⟨t, rfl⟩ := r
      exact call_range_1 ⟨_, 0, j, _, _, _, H1, rfl, IsRange.new _ _ _ _ _ _ _, I1.kept fun b u e => Heap.get?_push_of_some _ e, q⟩
  · subst e
    cases r1 with
    | cons r rr =>
      cases rr with
      | cons r' rr =>
        cases rr
        obtain ⟨t, rfl⟩ := r
        obtain ⟨t', rfl⟩ := r'
        exact call_range_2 ⟨_, i, j, _, _, _, H1, rfl, IsRange.new _ _ _ _ _ _ _, I1.kept fun b u e => Heap.get?_push_of_some _ e, q⟩
theorem ped_listRA {m : Bool} {E : Expr} {r : Sl → Hh → R D} {p pos : Pos} (hc : X.calm = true) (hl : Gl X "list") (ml : X.mg "list" = none) (hs : notStar E = true) (hp : PRg X E (tRgA (tA (kX X ca ea) W (rowE r)))) :
    PE X (.Call (.Name "list" p) [E] [] pos) (tE (kX X ca ea) W fun σ h => (rngR (r σ h)).bind fun x h => mkL m (asTup x) h) :=
  PE.imp (pe_listRg hc hl ml hp (star_cons [] X.env hs)) fun σV H Q ⟨w, σ, h, e, q, s, p⟩ => by
    show tA (kX X ca ea) W (rowE r) σV H fun vs H1 => (∃ j, vs = [.int j] ∧ (RgOk 0 j ∧ ∀ q, H1 q = none → Q (.ref q) (upd H1 q (.lst (rgV 0 j))))) ∨ ∃ i j, vs = [.int i, .int j] ∧ (RgOk i j ∧ ∀ q, H1 q = none → Q (.ref q) (upd H1 q (.lst (rgV i j))))
    refine ⟨w, σ, h, e, q, s, ?_⟩
    show post _ _ _ _ _ (rowR (r σ h)) _
    replace p : post (kX X ca ea) W (Rep (kX X ca ea)) w σV ((rowR (r σ h)).bind fun l h => ((R.opt (rngD l) h).bind fun l h => if l.length ≤ sizeL then .ok (.tup l) h else .bad).bind fun x h => mkL m (asTup x) h) Q := by
      have : ((rngR (r σ h)).bind fun x h => mkL m (asTup x) h) = (rowR (r σ h)).bind fun l h => ((R.opt (rngD l) h).bind fun l h => if l.length ≤ sizeL then .ok (.tup l) h else .bad).bind fun x h => mkL m (asTup x) h := by
        unfold rngR
        cases r σ h <;> rfl
      rw [← this]; exact p
    generalize rowR (r σ h) = rr at p ⊢
    cases rr with
    | bad => exact p
    | ex c l h' => exact p
    | ok l h' =>
      simp only [R.bind_ok] at p
      intro w' vs x q' rl
      cases e : rngD l with
      | none => rw [e] at p; exact False.elim p
      | some m' =>
        rw [e] at p
        simp only [R.opt_some, R.bind_ok] at p
        split at p
        · rename_i hz
          have p : post (kX X ca ea) W (Rep (kX X ca ea)) w σV (mkL m m' h') Q := p
          have hsz : sizeL = 16777216 := rfl
          rcases rng_cases e with ⟨j, rfl, b, rfl⟩ | ⟨i, j, rfl, b, b', rfl⟩
          · obtain ⟨y, rfl, ry⟩ := rl.one'
            cases ry.intI
            obtain ⟨b1, b2⟩ := smallI_bd b
            have hl : (rangeL 0 j).length = (j - 0).toNat := by unfold rangeL; simp
            exact .inl ⟨j, rfl, ⟨by omega, by omega, b1, b2, by omega⟩, fun c hc => (p.mono x).lst q' (rng_rep 0 j) hc⟩
          · obtain ⟨y, z, rfl, ry, rz⟩ := rl.two'
            cases ry.intI; cases rz.intI
            obtain ⟨b1, b2⟩ := smallI_bd b
            obtain ⟨b3, b4⟩ := smallI_bd b'
            have hl : (rangeL i j).length = (j - i).toNat := by unfold rangeL; simp
            exact .inr ⟨i, j, rfl, ⟨b1, b2, b3, b4, by omega⟩, fun c hc => (p.mono x).lst q' (rng_rep i j) hc⟩
        · exact False.elim p
theorem ckRng_inv {c : Ck} {tg E : Expr} (q : ckRng c s tg E = true) : s.glo "range" = true ∧ ((∃ A p pos, E = .Call (.Name "range" p) [A] [] pos ∧ c.L s [A] = true) ∨ ∃ A B p pos, E = .Call (.Name "range" p) [A, B] [] pos ∧ c.L s [A, B] = true) := by
  unfold ckRng at q
  split at q
  · simp only [Bool.and_eq_true, beq_iff_eq] at q
    obtain ⟨⟨rfl, h2⟩, h3⟩ := q
    exact ⟨h2, .inl ⟨_, _, _, rfl, h3⟩⟩
  · simp only [Bool.and_eq_true, beq_iff_eq] at q
    obtain ⟨⟨rfl, h2⟩, h3⟩ := q
    exact ⟨h2, .inr ⟨_, _, _, _, rfl, h3⟩⟩
  · cases q
theorem snd_rng {es : Ex} (ha : Snd ca ea T es) : Snd ca ea T (.rng es) := by
  refine ⟨fun W X s F E q => Bool.noConfusion q, fun W X s F E q => Bool.noConfusion q, fun W X s F es q => Bool.noConfusion q, fun W X s F tg E q => ?_, fun W X s F m p pos E hl q => ?_, fun W X s F kws q => Bool.noConfusion q⟩
  · have q : ckRng (chk es) s tg E = true := q
    obtain ⟨h0, h⟩ := ckRng_inv q
    have hm := F.blt "range" (by decide +kernel)
    rcases h with ⟨A, p, pos, rfl, h⟩ | ⟨A, B, p, pos, rfl, h⟩
    · obtain ⟨g1, g2, g3⟩ := ha.oL W X s F _ h
      simp only [List.all_cons, List.all_nil, Bool.and_true, Bool.and_eq_true] at g3
      refine PI.imp (pi_rng1 (F.Gl h0) hm g1 (star_cons [] X.env g3) fun σ h l h' e => ?_) fun σV H Q p => p.eq fun σ h => ?_
      · unfold rowR at e
        cases er : evalE T es σ h with
        | ok d h1 => rw [er] at e; cases e; obtain ⟨l, rfl, hl⟩ := g2 _ _ _ _ er; exact hl
        | ex _ _ _ => rw [er] at e; cases e
        | bad => rw [er] at e; cases e
      · simp only [srcE, evalE, rngR]
    · obtain ⟨g1, g2, g3⟩ := ha.oL W X s F _ h
      simp only [List.all_cons, List.all_nil, Bool.and_true, Bool.and_eq_true] at g3
      have e2 : starEach [B] X.env = [(false, eval B X.env)] := star_cons [] X.env g3.2
      refine PI.imp (pi_rng2 (F.Gl h0) hm g1 (by rw [star_cons [B] X.env g3.1, e2]) e2 fun σ h l h' e => ?_) fun σV H Q p => p.eq fun σ h => ?_
      · unfold rowR at e
        cases er : evalE T es σ h with
        | ok d h1 => rw [er] at e; cases e; obtain ⟨l, rfl, hl⟩ := g2 _ _ _ _ er; exact hl
        | ex _ _ _ => rw [er] at e; cases e
        | bad => rw [er] at e; cases e
      · simp only [srcE, evalE, rngR]
  · have q : (s.cm && ckRng (chk es) s E E) = true := q
    rw [Bool.and_eq_true] at q
    obtain ⟨hcm, q⟩ := q
    obtain ⟨h0, h⟩ := ckRng_inv q
    have hm := F.blt "range" (by decide +kernel)
    have key : PRg X E (tRgA (tA (kX X ca ea) W (rowE (evalE T es)))) ∧ notStar E = true := by
      rcases h with ⟨A, p, pos, rfl, h⟩ | ⟨A, B, p, pos, rfl, h⟩
      · obtain ⟨g1, g2, g3⟩ := ha.oL W X s F _ h
        simp only [List.all_cons, List.all_nil, Bool.and_true, Bool.and_eq_true] at g3
        exact ⟨prg_A1 (F.Gl h0) hm g1 (star_cons [] X.env g3), rfl⟩
      · obtain ⟨g1, g2, g3⟩ := ha.oL W X s F _ h
        simp only [List.all_cons, List.all_nil, Bool.and_true, Bool.and_eq_true] at g3
        have e2 : starEach [B] X.env = [(false, eval B X.env)] := star_cons [] X.env g3.2
        exact ⟨prg_A2 (F.Gl h0) hm g1 (by rw [star_cons [B] X.env g3.1, e2]) e2, rfl⟩
    exact PE.imp (ped_listRA (m := m) (F.calm hcm) (F.Gl hl) (F.blt "list" (by decide +kernel)) key.2 key.1) fun σV H Q p => p.eq fun σ h => by
      simp only [evalE, rngR]
theorem snd_listr (m : Bool) {a : Ex} (ha : Snd ca ea T a) : Snd ca ea T (.listr m a) := Snd.v rfl fun W X s F E q => by
  split at q
  · simp only [Bool.and_eq_true, beq_iff_eq] at q
    obtain ⟨⟨rfl, h2⟩, h3⟩ := q
    exact ⟨ha.oG W X s F m _ _ _ h2 h3, rfl⟩
  · cases q
theorem snd_rev (m : Bool) {a : Ex} (ha : Snd ca ea T a) : Snd ca ea T (.rev m a) := Snd.v rfl fun W X s F E q => by
  split at q
  · exact ⟨PE.imp (ped_rev (m := m) (ha.oE W X s F _ q).1) fun σV H Q p => p.eq fun σ h => by
      simp only [evalE, revR]
      cases evalE T a σ h <;> first | rfl | (rename_i x _; cases x <;> rfl), rfl⟩
  · cases q
theorem ckEnum_inv {c : Ck} {tg E : Expr} (q : ckEnum c s tg E = true) : ∃ es kk tp A p pos, tg = .Tuple es kk tp ∧ E = .Call (.Name "enumerate" p) [A] [] pos ∧ s.glo "enumerate" = true ∧ notStar A = true ∧ c.E s A = true := by
  unfold ckEnum at q
  split at q
  · split at q
    · simp only [Bool.and_eq_true, beq_iff_eq] at q
      obtain ⟨⟨⟨rfl, h2⟩, h3⟩, h4⟩ := q
      exact ⟨_, _, _, _, _, _, rfl, rfl, h2, h3, h4⟩
    · cases q
  · cases q
theorem snd_enum {a : Ex} (ha : Snd ca ea T a) : Snd ca ea T (.enum a) := by
  refine ⟨fun W X s F E q => Bool.noConfusion q, fun W X s F E q => Bool.noConfusion q, fun W X s F es q => Bool.noConfusion q, fun W X s F tg E q => ?_, fun W X s F m p pos E hl q => Bool.noConfusion q, fun W X s F kws q => Bool.noConfusion q⟩
  have q : ckEnum (chk a) s tg E = true := q
  obtain ⟨es, kk, tp, A, p, pos, rfl, rfl, h2, h3, h4⟩ := ckEnum_inv q
  refine PI.imp (ped_enum (F.Gl h2) (F.blt "enumerate" (by decide +kernel)) (ha.oE W X s F A h4).1 h3) fun σV H Q p => p.eq fun σ h => ?_
  simp only [srcE, evalE] <;> (cases evalE T a σ h <;> first | rfl | (rename_i x _; cases x <;> rfl))
theorem ckZip_inv {st : Bool} {c d : Ck} {tg E : Expr} (q : ckZip st c d s tg E = true) : ∃ es kk tp A B p pos, st = false ∧ tg = .Tuple es kk tp ∧ E = .Call (.Name "zip" p) [A, B] [] pos ∧ s.glo "zip" = true ∧ notStar A = true ∧ notStar B = true ∧ c.E s A = true ∧ d.E s B = true := by
  unfold ckZip at q
  split at q
  · split at q
    · simp only [Bool.and_eq_true, beq_iff_eq, Bool.not_eq_true'] at q
      obtain ⟨⟨⟨⟨⟨⟨h0, rfl⟩, h2⟩, h3⟩, h4⟩, h5⟩, h6⟩ := q
      exact ⟨_, _, _, _, _, _, _, h0, rfl, rfl, h2, h3, h4, h5, h6⟩
    · cases q
  · cases q
theorem snd_zip {st : Bool} {a b : Ex} (ha : Snd ca ea T a) (hb : Snd ca ea T b) : Snd ca ea T (.zip st a b) := by
  refine ⟨fun W X s F E q => Bool.noConfusion q, fun W X s F E q => Bool.noConfusion q, fun W X s F es q => Bool.noConfusion q, fun W X s F tg E q => ?_, fun W X s F m p pos E hl q => Bool.noConfusion q, fun W X s F kws q => Bool.noConfusion q⟩
  have q : ckZip st (chk a) (chk b) s tg E = true := q
  obtain ⟨es, kk, tp, A, B, p, pos, rfl, rfl, rfl, h2, h3, h4, h5, h6⟩ := ckZip_inv q
  refine PI.imp (ped_zip (F.Gl h2) (F.blt "zip" (by decide +kernel)) (ha.oE W X s F A h5).1 (hb.oE W X s F B h6).1 h3 h4) fun σV H Q p => p.eq fun σ h => ?_
  simp only [srcE, evalE] <;> rfl
end
end Dy
end

section
set_option linter.all false
set_option maxRecDepth 100000
set_option maxHeartbeats 2000000
set_option Elab.async false
namespace Dy
open PySem PySem.Spec PyProof.Rows L2
section
variable {ca : Str → Addr} {ea : Ec} {W : Option WX} {T : Cl} {X : Cx} {s : SE}
/-! ### isinstance -/
theorem ty_name (F : Fit W T (kX X ca ea) X s) {t : Ty} {E : Expr} (h : tyIs t E = true) (g : s.glo t.nm = true) : ∃ p, E = .Name (Str.ofString t.nm) p ∧ t.isB = true ∧ PE X E (tC (.ty t.nm)) := by
  unfold tyIs at h
  split at h
  · rename_i x p
    simp only [Bool.and_eq_true, beq_iff_eq] at h
    obtain ⟨h1, rfl⟩ := h
    refine ⟨p, rfl, h1, ?_⟩
    have hm : X.mg (Str.ofString t.nm) = none := F.blt _ (by cases t <;> first | (exact Bool.noConfusion h1) | decide +kernel)
    have hv : bootBuiltins (Str.ofString t.nm) = some (.type t.nm) := by cases t <;> first | (exact Bool.noConfusion h1) | rfl
    exact pe_bltn (F.Gl g) hm hv rfl (by cases t <;> first | (exact Bool.noConfusion h1) | decide +kernel) (by cases t <;> first | (exact Bool.noConfusion h1) | decide +kernel)
  · cases h
theorem snd_isi {a : Ex} (ts : List Ty) (ha : Snd ca ea T a) : Snd ca ea T (.isi a ts) := Snd.v rfl fun W X s F E q => by
  split at q
  · rename_i x p1 A Ty pos
    simp only [Bool.and_eq_true, beq_iff_eq] at q
    obtain ⟨⟨⟨⟨⟨rfl, h2⟩, h3⟩, h4⟩, h5⟩, h6⟩ := q
    split at h6
    · rename_i t
      have h5 : (s.glo t.nm && true) = true := h5
      rw [Bool.and_true] at h5
      obtain ⟨p2, rfl, tb, pt⟩ := ty_name F h6 h5
      refine ⟨PE.imp (ped_isi1 (F.Gl h2) (F.blt "isinstance" (by decide +kernel)) (by rfl) (ha.oE W X s F A h4).1 h3 pt) fun σV H Q p => p.eq fun σ h => ?_, rfl⟩
      simp only [evalE, isiD]
    · cases h6
  · cases q
/-! ### comprehensions -/
theorem own_slots {s : SE} {t : Tg} {scope : Scope} {own : List (Str × Nat)} (h : ownOf s t scope = some own) : own.map (·.2) = t.slots := by
  unfold ownOf at h
  generalize t.slots = l at h ⊢
  induction l generalizing own with
  | nil => simp at h; subst h; rfl
  | cons i l ih =>
    simp only [List.mapM_cons] at h
    cases hi : s.N[i]? with
    | none => rw [hi] at h; simp at h
    | some x =>
      rw [hi] at h
      cases hr : (l.mapM fun i => (s.N[i]?).map fun x => (x, i)) with
      | none => rw [hr] at h; simp at h
      | some r =>
        rw [hr] at h
        simp at h
        subst h
        simp [ih hr]
theorem lc_ev (m : Bool) (t : Tg) (e it c : Ex) (σ : Sl) (h : Hh) : evalE T (.lc m e t it c) σ h = lcR m t (srcE (evalE T it)) (rT (evalE T c)) (evalE T e) σ h := by
  simp only [evalE, lcR, srcE, lcTurn]
  have : ∀ σ, (turn t (clr σ t.slots) fun σ h => iff (evalE T c σ h) fun h => one (evalE T e σ h)) = turn t (clr σ t.slots) fun σ h => iffB (rT (evalE T c) σ h) fun h => one (evalE T e σ h) := fun σ => by
    have : (fun σ h => iff (evalE T c σ h) fun h => one (evalE T e σ h)) = fun σ h => iffB (rT (evalE T c) σ h) fun h => one (evalE T e σ h) := by
      funext σ h
      unfold iff iffB rT
      cases evalE T c σ h <;> rfl
    rw [this]
  rw [this]
  cases evalE T it σ h <;> rfl
theorem notSet_fold {E : Expr} (h : notSet E = true) (env : Env) (x : Value) : foldedSetIterable E env x = pure x := by
  cases E <;> first | (exact Bool.noConfusion h) | rfl
theorem pts_true : PTs X [] (tT (kX X ca ea) W (rT (evalE T (.kb true)))) :=
  ⟨fun pins s σ H Q I p => pts_nil.run pins s σ H Q I (by
    obtain ⟨w, σ, h, e, q, s, p⟩ := p
    replace p : post (kX X ca ea) W (fun _ a b => a = b) w _ ((evalE T (.kb true) σ h).bind fun x h => R.opt (truthy h x) h) Q := p
    simp only [evalE, R.bind_ok, truthy, R.opt_some] at p
    exact e ▸ p.here q rfl)⟩
theorem kb_of {c : Ex} (h : c.isTrueK = true) : c = .kb true := by
  unfold Ex.isTrueK at h
  split at h
  · rfl
  · cases h
structure LcInv (s : SE) (t : Tg) (yes : Bool) (e c it : Ck) (E : Expr) : Prop where
  ex : ∃ El tg It ifs scope pos own, E = .ListComp El [⟨tg, It, ifs, 0⟩] scope pos ∧ ownOf s t scope = some own ∧ s.cm = true ∧ blkD s scope own = true ∧ notSet It = true ∧ it.I s tg It = true ∧ chkG ⟨s.N, scope.names, s.fs, s.cm, s.rz, s.xs, false⟩ t tg = true ∧
    ((ifs = [] ∧ yes = true) ∨ ∃ C, ifs = [C] ∧ c.T ⟨s.N, scope.names, s.fs, s.cm, s.rz, s.xs, false⟩ C = true) ∧ e.E ⟨s.N, scope.names, s.fs, s.cm, s.rz, s.xs, false⟩ El = true
theorem ckLc_inv {t : Tg} {yes : Bool} {e c it : Ck} {E : Expr} (q : ckLc t yes e c it s E = true) : LcInv s t yes e c it E := by
  unfold ckLc at q
  split at q
  · split at q
    · rename_i own ho
      simp only [Bool.and_eq_true] at q
      obtain ⟨⟨⟨⟨⟨⟨h1, h2⟩, h3⟩, h4⟩, h5⟩, h6⟩, h7⟩ := q
      refine ⟨⟨_, _, _, _, _, _, own, rfl, ho, h1, h2, h3, h4, h5, ?_, h7⟩⟩
      split at h6
      · exact .inl ⟨rfl, h6⟩
      · exact .inr ⟨_, rfl, h6⟩
      · cases h6
    · cases q
  · cases q
theorem snd_lc (m : Bool) (t : Tg) {e it c : Ex} (he : Snd ca ea T e) (hi : Snd ca ea T it) (hc : Snd ca ea T c) : Snd ca ea T (.lc m e t it c) := Snd.v rfl fun W X s F E q => by
  obtain ⟨El, tg, It, ifs, scope, pos, own, rfl, ho, h1, h2, h3, h4, h5, h6, h7⟩ := (ckLc_inv q).ex
  refine ⟨PE.imp (ped_lc (m := m) (rc := rT (evalE T c)) (re := evalE T e) (F.calm h1) F.nd (hi.oI W X s F tg It h4) (blkD_ok F h2) (own_slots ho) (fun s0 H C cl fp => ?_) (fun s0 H C cl fp => ?_) (fun s0 H C cl fp => ?_) (notSet_fold h3 X.env)) fun σV H Q p => p.eq fun σ h => lc_ev m t e it c σ h, rfl⟩
  · exact chkG_ok (F.blk s0 H scope C cl fp) t tg h5
  · rcases h6 with ⟨rfl, h6⟩ | ⟨C', rfl, h6⟩
    · rw [kb_of h6]; exact pts_true
    · exact pts_one (hc.oT none _ _ (F.blk s0 H scope C cl fp) C' h6)
  · exact (he.oE none _ _ (F.blk s0 H scope C cl fp) El h7).1
end
end Dy
end

section
set_option linter.all false
set_option maxRecDepth 100000
set_option maxHeartbeats 2000000
set_option Elab.async false
/-! Dy: the exception in hand, its attributes and classes. -/
namespace Dy
open PySem PySem.Spec PyProof.Rows L2
theorem zip_look {l : List D} {f : Str} {d : D} : ∀ {fs : List String} {l : List D}, ((fs.map Str.ofString).zip l).lookup f = some d → ∃ (i : Nat) (g : String), fs[i]? = some g ∧ Str.ofString g = f ∧ l[i]? = some d
  | [], l, e => by simp at e
  | g :: fs, [], e => by simp at e
  | g :: fs, x :: l, e => by
    simp only [List.map_cons, List.zip_cons_cons, List.lookup_cons] at e
    cases hb : f == Str.ofString g with
    | true => rw [hb] at e; cases e; exact ⟨0, g, rfl, (beq_iff_eq.mp hb).symm, rfl⟩
    | false =>
      rw [hb] at e
      obtain ⟨i, g', e1, e2, e3⟩ := zip_look (l := []) e
      exact ⟨i + 1, g', e1, e2, e3⟩
section
variable {ca : Str → Addr} {ea : Ec} {W : Option WX} {T : Cl} {X : Cx} {s : SE}
theorem Fit.hand (F : Fit W T (kX X ca ea) X s) (he : s.en = true) {w : Wd} {h : Hh} {σ : Sl} {σV : L2.St} {i : Nat} {c : EC} {l : List D} (q : WR (kX X ca ea) w h) (sr : Sr (kX X ca ea) w σ σV) (e : exOf h σ[i]? = some (c, l)) :
    ∃ a dd, σV[i]? = some (some (.ref a)) ∧ InHand X a (ea.at_ c) dd ∧ ea.ok c = true ∧ ExR (kX X ca ea) w c l (.ref (ea.at_ c)) dd := by
  unfold exOf at e
  split at e
  · rename_i n e1
    split at e
    · rename_i c' l' e2
      cases e
      obtain ⟨a, dd, h1, h2⟩ := q.exc n c l e2
      obtain ⟨v, v1, v2⟩ := sr.2 i _ e1
      simp only [Rep] at v2
      obtain ⟨_, b, rfl, _, v3⟩ := v2
      have := v3 a _ h1
      subst this
      exact ⟨a, dd, v1, F.exc he a n dd c h1, h2.1.1.2, h2⟩
    · cases e
  · cases e
theorem exr_xd {k : Kx} {w : Wd} {c : EC} {l : List D} {u : Value} {dd : Option Addr} (r : ExR k w c l u dd) : ∀ dx, dd = some dx → ∃ fs, w.H dx = some (.xd fs) := fun dx e => by
  by_cases hf : c.fs = []
  · rw [r.1.2 hf] at e; cases e
  · obtain ⟨dx', vf, e1, e2, _⟩ := r.2.2 hf
    rw [e] at e1; cases e1
    exact ⟨vf, e2⟩
theorem snd_exf (i : Nat) (f : Str) : Snd ca ea T (.exf i f) := Snd.v rfl fun W X s F E q => by
  split at q
  · rename_i x p1 g p2
    simp only [Bool.and_eq_true, beq_iff_eq, okName, bne_iff_ne, ne_eq] at q
    obtain ⟨⟨⟨⟨h1, h2⟩, h3, h4⟩, rfl⟩, h5⟩ := q
    refine ⟨PE.imp (pe_exf (pe_var (by rw [F.hN]; exact h1) (F.Vis h2) (by simpa using h3) (by simpa using h4)) (by rfl)) fun σV H Q p => ?_, rfl⟩
    obtain ⟨w, σ, h, e, q, sr, p⟩ := p
    subst e
    simp only [evalE] at p
    cases ex : exOf h σ[i]? with
    | none => rw [ex] at p; exact False.elim p
    | some cl =>
      obtain ⟨c, l⟩ := cl
      rw [ex] at p
      simp only [R.opt_some, R.bind_ok] at p
      cases hl : ((c.fs.map Str.ofString).zip l).lookup f with
      | none => rw [hl] at p; exact False.elim p
      | some d =>
        rw [hl] at p
        obtain ⟨a, dd, v1, ih, ok, r⟩ := F.hand h5 q sr ex
        obtain ⟨j, g, g1, rfl, g3⟩ := zip_look (l := []) hl
        have ne : c.fs ≠ [] := fun z => by rw [z] at g1; simp at g1
        obtain ⟨dx, vf, rfl, hx, _, at_⟩ := r.2.2 ne
        obtain ⟨v, hv, rv⟩ := at_ j g d g1 g3
        obtain ⟨T, na, _⟩ := F.xf.cls c ok
        exact ⟨_, v1, a, _, dx, vf, v, rfl, ih, T, na g (List.mem_of_getElem? g1), hx, hv, p.here q rv⟩
  · cases q
theorem cls_pe (F : Fit W T (kX X ca ea) X s) {d : EC} {p : Pos} (h1 : s.glo (Str.ofString d.nm) = true) (h2 : d ∈ s.xs) : PE X (.Name (Str.ofString d.nm) p) (tC (clsW (kX X ca ea) d)) := by
  cases hb : d.blt with
  | true =>
    obtain ⟨m1, m2⟩ := F.xf.blt d h2 hb
    have : clsW (kX X ca ea) d = .ty d.nm := by unfold clsW; rw [hb]; rfl
    rw [this]
    exact pe_bltn (F.Gl h1) m1 m2 rfl (by cases d <;> decide) (by cases d <;> decide)
  | false =>
    have : clsW (kX X ca ea) d = .ref (ea.at_ d) := by unfold clsW; rw [hb]; rfl
    rw [this]
    exact pe_glob (F.Gl h1) (F.xf.own d h2 hb) rfl (by cases d <;> decide)
theorem cls_fix (k : Kx) (d : EC) : ∀ u, RelV (clsW k d) u → u = clsV k d := fun u r => by
  unfold clsW at r
  unfold clsV
  cases hb : d.blt with
  | true => rw [hb] at r; exact r
  | false => rw [hb] at r; exact r
def tCs : List V → TA
  | [] => tNil
  | v :: r => tCons (tC v) (tCs r)
theorem tCs_q {H : Hp} {Q : List V → Hp → Prop} {σ : L2.St} : ∀ {vs : List V}, Q vs H → tCs vs σ H Q
  | [], q => q
  | v :: r, q => tCs_q (vs := r) (Q := fun xs H2 => Q (v :: xs) H2) q
theorem cls_row (F : Fit W T (kX X ca ea) X s) : ∀ {cs : List EC} {es : List Expr}, clsRow s cs es = true → PA X es (tCs (cs.map (clsW (kX X ca ea)))) ∧ es.all notStar = true ∧ ∀ d ∈ cs, d ∈ s.xs
  | [], [], _ => ⟨pa_nil, rfl, fun _ z => nomatch z⟩
  | [], _ :: _, q => Bool.noConfusion q
  | d :: ds, [], q => Bool.noConfusion q
  | d :: ds, e :: es, q => by
    unfold clsRow at q
    split at q
    · rename_i e1 e2; cases e1
    · rename_i d' ds' z p es' e1 e2
      cases e1; cases e2
      simp only [Bool.and_eq_true, beq_iff_eq] at q
      obtain ⟨⟨⟨rfl, h2⟩, h3⟩, h4⟩ := q
      obtain ⟨g1, g2, g3⟩ := cls_row F h4
      have h3 := List.contains_iff_mem.mp h3
      exact ⟨pa_cons (cls_pe F h2 h3) g1 (star_cons _ X.env rfl), by simpa [notStar] using g2, fun x hx => by
        rcases List.mem_cons.mp hx with rfl | hx
        · exact h3
        · exact g3 x hx⟩
    · cases q
theorem kit_row {k : Kx} {c : EC} {K : PySem.W.Frag} : ∀ {cs : List EC}, (∀ d ∈ cs, PySem.W.kitOne K (.ref (k.ea.at_ c)) (clsV k d) = some (c.sub d)) → PySem.W.kitAny K (.ref (k.ea.at_ c)) (cs.map (clsV k)) = some (cs.any fun d => c.sub d)
  | [], _ => rfl
  | d :: cs, h => by
    have h1 := h d List.mem_cons_self
    have h2 := kit_row (cs := cs) fun x hx => h x (List.mem_cons_of_mem _ hx)
    simp only [List.map_cons, List.any_cons, PySem.W.kitAny, h1]
    cases c.sub d with
    | true => rfl
    | false => exact h2
theorem fix_row (k : Kx) : ∀ cs : List EC, Paired (fun c cv => ∀ u, RelV c u → u = cv) (cs.map (clsW k)) (cs.map (clsV k))
  | [] => .nil
  | d :: cs => .cons (cls_fix k d) (fix_row k cs)
theorem snd_ise (i : Nat) (cs : List EC) : Snd ca ea T (.ise i cs) := Snd.v rfl fun W X s F E q => by
  split at q
  · rename_i x p1 y p2 Ty p3
    simp only [Bool.and_eq_true, beq_iff_eq, okName, bne_iff_ne, ne_eq] at q
    obtain ⟨⟨⟨⟨⟨⟨rfl, h1⟩, h2⟩, h3⟩, h4, h4'⟩, h5⟩, h6⟩ := q
    have pv : PE X (.Name y p2) (tVar i) := pe_var (by rw [F.hN]; exact h2) (F.Vis h3) (by simpa using h4) (by simpa using h4')
    have rd : ∀ {σV : L2.St} {H : Hp} {Q : VK}, tE (kX X ca ea) W (evalE T (.ise i cs)) σV H Q → (∀ d ∈ cs, d ∈ s.xs) → ∃ (w : Wd) (h : Hh) (c : EC) (a : Addr) (dd : Option Addr), w.H = H ∧ WR (kX X ca ea) w h ∧ σV[i]? = some (some (.ref a)) ∧ InHand X a (ea.at_ c) dd ∧ XcC X.K (ea.at_ c) ∧
        (∀ dx, dd = some dx → ∃ fs, H dx = some (.xd fs)) ∧ (∀ d ∈ cs, PySem.W.kitOne X.K (.ref (ea.at_ c)) (clsV (kX X ca ea) d) = some (c.sub d)) ∧ post (kX X ca ea) W (Rep (kX X ca ea)) w σV (.ok (.bl (cs.any fun d => c.sub d)) h) Q := by
      intro σV H Q ⟨w, σ, h, e, q, sr, p⟩ hcs
      subst e
      simp only [evalE] at p
      cases ex : exOf h σ[i]? with
      | none => rw [ex] at p; exact False.elim p
      | some cl =>
        obtain ⟨c, l⟩ := cl
        rw [ex] at p
        simp only [R.opt_some, R.bind_ok] at p
        obtain ⟨a, dd, v1, ih, ok, r⟩ := F.hand h5 q sr ex
        exact ⟨w, h, c, a, dd, rfl, q, v1, ih, (F.xf.cls c ok).1, exr_xd r, fun d hd => F.xf.kit c ok d (hcs d hd), p⟩
    split at h6
    · rename_i z p4
      split at h6
      · rename_i d
        simp only [Bool.and_eq_true, beq_iff_eq] at h6
        obtain ⟨⟨rfl, g1⟩, g2⟩ := h6
        have g2 := List.contains_iff_mem.mp g2
        refine ⟨PE.imp (pe_callB (call_isX (X := X)) (F.Gl h1) (F.blt "isinstance" (by decide +kernel)) (by rfl) (pa_cons pv (pa_cons (cls_pe F g1 g2) pa_nil rfl) (star_cons _ X.env rfl)) (by decide) (by decide) (star_cons _ X.env rfl) rfl) fun σV H Q p => ?_, rfl⟩
        obtain ⟨w, h, c, a, dd, e, q, v1, ih, T, hx, kt, p5⟩ := rd p fun x hx => by rw [List.mem_singleton.mp hx]; exact g2
        subst e
        refine ⟨_, v1, ?_⟩
        refine ⟨a, _, dd, _, c.sub d, rfl, ih, T, hx, .inl ⟨_, cls_fix _ d, kt d List.mem_cons_self⟩, ?_⟩
        have z := (show post (kX X ca ea) W (Rep (kX X ca ea)) w σV (.ok (.bl ([d].any fun d => c.sub d)) h) Q from p5).here q (Rep.bl _)
        simpa using z
      · cases h6
    · rename_i Es tc tp
      rw [Bool.and_eq_true] at h6
      have hz := of_decide_eq_true h6.1
      replace h6 := h6.2
      obtain ⟨g1, g2, g3⟩ := cls_row F h6
      refine ⟨PE.imp (pe_callB (call_isX (X := X)) (F.Gl h1) (F.blt "isinstance" (by decide +kernel)) (by rfl) (pa_cons pv (pa_cons (pe_tupF g1) pa_nil rfl) (star_cons _ X.env rfl)) (by decide) (by decide) (star_cons _ X.env rfl) rfl) fun σV H Q p => ?_, rfl⟩
      obtain ⟨w, h, c, a, dd, e, q, v1, ih, T, hx, kt, p5⟩ := rd p g3
      subst e
      refine ⟨_, v1, ?_⟩
      refine tCs_q ⟨?_, fun tp o hn ho => ?_⟩
      · rw [List.length_map]
        have e : sizeLine = 16777216 := rfl
        omega
      · have hn' : ∀ dx fs, w.H dx = some (.xd fs) → dx ≠ tp := fun dx fs z y => by subst y; rw [hn] at z; cases z
        refine ⟨a, _, dd, _, (cs.any fun d => c.sub d), rfl, ih, T, fun dx ed => ?_, .inr ⟨tp, _, _, rfl, .inl (.inr ⟨o, upd_same⟩), fix_row (kX X ca ea) cs, kit_row (k := kX X ca ea) kt⟩, ?_⟩
        · obtain ⟨fs, z⟩ := hx dx ed
          exact ⟨fs, by rw [upd_ne (hn' dx fs z)]; exact z⟩
        · exact ((show post (kX X ca ea) W (Rep (kX X ca ea)) w σV (.ok (.bl (cs.any fun d => c.sub d)) h) Q from p5).mono (q.le_put (o := .frz o (.tup (cs.map (clsW (kX X ca ea))))) hn)).here (q.put hn) (Rep.bl _)
    · cases h6
  · cases q
end
end Dy
end

section
set_option linter.all false
set_option maxRecDepth 100000
set_option maxHeartbeats 2000000
set_option Elab.async false
namespace Dy
open PySem PySem.Spec PyProof.Rows L2
section
variable {ca : Str → Addr} {ea : Ec} {W : Option WX} {T : Cl} {X : Cx} {s : SE}
/-! ### calls -/
theorem kw_all {pos : Pos} {env : Env} : ∀ {kws : List Keyword} {ks : List Str}, kwNames kws = some ks → (backToKw pos (keywordEach kws env)).all (·.1.isSome) = true ∧ (backToKw pos (keywordEach kws env)).any (·.1.isNone) = false ∧ (backToKw pos (keywordEach kws env)).filterMap (·.1) = ks ∧ kws.length = ks.length
  | [], ks, h => by
    simp only [kwNames, Option.some.injEq] at h
    subst h
    exact ⟨rfl, rfl, rfl, rfl⟩
  | ⟨nm, v, p⟩ :: kws, ks, h => by
    unfold kwNames at h
    cases nm with
    | none => simp at h
    | some x =>
      cases hr : kwNames kws with
      | none => rw [hr] at h; simp at h
      | some l =>
        rw [hr] at h
        simp only [Option.some.injEq] at h
        subst h
        obtain ⟨h1, h2, h3, h4⟩ := kw_all (pos := pos) (env := env) hr
        refine ⟨?_, ?_, ?_, by simp [h4]⟩
        · show (true && (backToKw pos (keywordEach kws env)).all (·.1.isSome)) = true; rw [h1]; rfl
        · show (false || (backToKw pos (keywordEach kws env)).any (·.1.isNone)) = false; rw [h2]; rfl
        · show x :: (backToKw pos (keywordEach kws env)).filterMap (·.1) = _; rw [h3]
theorem call_ev (f : Str) (ks : List Str) (es kes : Ex) (σ : Sl) (h : Hh) : evalE T (.call f es ks kes) σ h = (rowR (evalE T es σ h)).bind fun l h => (rowR (evalE T kes σ h)).bind fun m h => T.call f l ks m h := by
  simp only [evalE]
  cases evalE T es σ h with
  | bad => rfl
  | ex c l h1 => rfl
  | ok x h1 =>
    show ((evalE T kes σ h1).bind fun y h => T.call f (asTup x) ks (asTup y) h) = (rowR (evalE T kes σ h1)).bind fun m h => T.call f (asTup x) ks m h
    cases evalE T kes σ h1 <;> rfl
theorem rowN_rep {r : Sl → Hh → R D} {n : Nat} (hr : RowN r n) {σ : Sl} {h h' : Hh} {l : List D} (e : rowR (r σ h) = .ok l h') : l.length = n := by
  unfold rowR at e
  cases er : r σ h with
  | ok d h1 => rw [er] at e; cases e; obtain ⟨l, rfl, hl⟩ := hr _ _ _ _ er; exact hl
  | ex _ _ _ => rw [er] at e; cases e
  | bad => rw [er] at e; cases e
theorem ped_call {f : Str} {ks : List Str} {n : Nat} {p pos : Pos} {e : Expr} {es : List Expr} {kws : List Keyword} {r rk : Sl → Hh → R D} (hC : CallOk W (kX X ca ea) T X f n ks) (hg : Gl X f) (hdb : (f == ("__debug__" : Str)) = false)
    (ha : PA X (e :: es) (tA (kX X ca ea) W (rowE r))) (hr : RowN r n) (hkw : PK X kws (tA (kX X ca ea) W (rowE rk))) (hks : kwNames kws = some ks) (hrk : RowN rk kws.length) (hs : (e :: es).all notStar = true) :
    PE X (.Call (.Name f p) (e :: es) kws pos) (tE (kX X ca ea) W fun σ h => (rowR (r σ h)).bind fun l h => (rowR (rk σ h)).bind fun m h => T.call f l ks m h) := by
  refine ⟨fun pins s σV H Q I h => ?_⟩
  obtain ⟨a, hm, hk, run⟩ := hC
  obtain ⟨k1, k2, k3, k4⟩ := kw_all (pos := pos) (env := X.env) hks
  have hs0 := hs
  simp only [List.all_cons, Bool.and_eq_true] at hs
  refine wpAny_Call_Name_kw (ld_glob I hg hm ?_ hdb)
  obtain ⟨w, σ, hh, e0, q, sr, p⟩ := h
  have p1 : post (kX X ca ea) W (RepL (kX X ca ea)) w σV (rowR (r σ hh)) (fun vs H1 => vs.length = n ∧ ∃ w1 l h1, w1.H = H1 ∧ WR (kX X ca ea) w1 h1 ∧ Sr (kX X ca ea) w1 σ σV ∧ RepL (kX X ca ea) w1 l vs ∧ post (kX X ca ea) W (Rep (kX X ca ea)) w1 σV ((rowR (rk σ h1)).bind fun m h => T.call f l ks m h) Q) := by
    replace p : post (kX X ca ea) W (Rep (kX X ca ea)) w σV ((rowR (r σ hh)).bind fun l h => (rowR (rk σ h)).bind fun m h => T.call f l ks m h) Q := p
    cases er : rowR (r σ hh) with
    | bad => rw [er] at p; exact p
    | ex c l h1 => rw [er] at p; exact p
    | ok l h1 =>
      rw [er] at p
      have hl := rowN_rep hr er
      intro w' vs x q' rl
      exact ⟨by rw [← rl.length]; exact hl, w', l, h1, rfl, q', sr.mono x.li, rl, p.mono x⟩
  refine PySem.W.callWith_KW (h₀ := X.base) I.ok.mod.kin hk k1 (thn (ha.run pos pins s σV H _ I ⟨w, σ, hh, e0, q, sr, p1⟩) fun us s1 ⟨vs, H1, I1, r1, hl, w1, l, h1, e1, q1, s1', rl, p2⟩ => ?_) (by rw [star_any hs0, k2]; rfl) (star_cons es X.env hs.1)
  have p3 : post (kX X ca ea) W (RepL (kX X ca ea)) w1 σV (rowR (rk σ h1)) (fun zs H2 => zs.length = ks.length ∧ ∃ w2 m h2, w2.H = H2 ∧ WR (kX X ca ea) w2 h2 ∧ RepL (kX X ca ea) w2 l vs ∧ RepL (kX X ca ea) w2 m zs ∧ post (kX X ca ea) W (Rep (kX X ca ea)) w2 σV (T.call f l ks m h2) Q) := by
    cases er : rowR (rk σ h1) with
    | bad => rw [er] at p2; exact p2
    | ex c l h1 => rw [er] at p2; exact p2
    | ok m h2 =>
      rw [er] at p2
      have hl := rowN_rep hrk er
      intro w' zs x q' rm
      exact ⟨by rw [← rm.length, ← k4]; exact hl, w', m, h2, rfl, q', RepL.mono x.li _ _ rl, rm, p2.mono x⟩
  refine thn (hkw.run pos pins s1 σV H1 _ I1 ⟨w1, σ, h1, e1, q1, s1', p3⟩) fun ws s2 ⟨zs, H2, I2, rz, hz, w2, m, h2, e2, q2, rl2, rm, p4⟩ => ⟨I2.kIn, ?_⟩
  rw [k3]
  exact run pins σV H2 s2 us ws vs zs Q I2 r1 rz (by rw [← r1.length]; exact hl) (by rw [← rz.length]; exact hz) ⟨w2, h2, l, m, e2, q2, rl2, rm, p4⟩
theorem snd_call (f : Str) (ks : List Str) {es kes : Ex} (ha : Snd ca ea T es) (hk : Snd ca ea T kes) : Snd ca ea T (.call f es ks kes) := Snd.v rfl fun W X s F E q => by
  unfold ckCall at q
  split at q
  · rename_i x p Es kws pos
    simp only [Bool.and_eq_true, beq_iff_eq, okName, bne_iff_ne, ne_eq] at q
    obtain ⟨⟨⟨⟨⟨⟨⟨⟨rfl, h2⟩, h3⟩, h4, h4'⟩, h5⟩, h6⟩, h7⟩, h8⟩, h9⟩ := q
    obtain ⟨g1, g2, g3⟩ := ha.oL W X s F Es h8
    obtain ⟨_, k2, _⟩ := hk.oL W X s F _ h9
    have k1 := hk.oK W X s F kws h9
    have hC := F.call _ (List.contains_iff_mem.mp h2) W X F.rz rfl rfl rfl rfl rfl rfl F.tk
    cases Es with
    | nil => exact Bool.noConfusion h5
    | cons A As =>
      refine ⟨PE.imp (ped_call hC (F.Gl h3) (by simpa using h4) g1 g2 k1 h6 (by simpa [kwVals] using k2) g3) fun σV H Q p => p.eq fun σ h => call_ev f ks es kes σ h, rfl⟩
  · cases q
/-- the checker is sound for expressions -/
theorem snd : ∀ e : Ex, Snd ca ea T e
  | .nil => snd_nil
  | .cons a b => snd_cons (snd a) (snd b)
  | .var i => snd_var i
  | .kn => snd_kn
  | .kb b => snd_kb b
  | .ki i => snd_ki i
  | .ks x => snd_ks x
  | .glo x => snd_glo x
  | .bin m o a b => snd_bin m o (snd a) (snd b)
  | .neg a => snd_neg (snd a)
  | .cmp o a b => snd_cmp o (snd a) (snd b)
  | .cmp2 o o' a b c => snd_cmp2 o o' (snd a) (snd b) (snd c)
  | .not a => snd_not (snd a)
  | .and a b => snd_and (snd a) (snd b)
  | .or a b => snd_or (snd a) (snd b)
  | .ife t a b => snd_ife (snd t) (snd a) (snd b)
  | .tup es => snd_tup (snd es)
  | .lst m es => snd_lst m (snd es)
  | .blt m b es => snd_blt m b (snd es)
  | .met m t o es => snd_met m t (snd o) (snd es)
  | .isi a ts => snd_isi ts (snd a)
  | .exf i f => snd_exf i f
  | .ise i cs => snd_ise i cs
  | .sub a b => snd_sub (snd a) (snd b)
  | .sli m a l h => snd_sli m (snd a) (snd l) (snd h)
  | .rev m a => snd_rev m (snd a)
  | .lc m e t it c => snd_lc m t (snd e) (snd it) (snd c)
  | .listr m a => snd_listr m (snd a)
  | .frz a => snd_frz (snd a)
  | .call f es ks kes => snd_call f ks (snd es) (snd kes)
  | .rng es => snd_rng (snd es)
  | .mk _ _ _ _ => .no rfl
  | .mcall _ _ _ _ _ _ => .no rfl
  | .exc _ _ => .no rfl
  | .mindef _ _ => .no rfl
  | .sortrev _ => .no rfl
  | .attr _ _ => .no rfl
  | .fst _ => .no rfl
  | .dct _ _ => .no rfl
  | .set _ => .no rfl
  | .lc2 _ _ _ _ _ _ _ _ => .no rfl
  | .dc _ _ _ _ _ => .no rfl
  | .dc2 _ _ _ _ _ _ _ => .no rfl
  | .sc _ _ _ => .no rfl
  | .enum a => snd_enum (snd a)
  | .zip st a b => snd_zip (snd a) (snd b)
  | .items _ => .no rfl
  | .values _ => .no rfl
  | .revr _ => .no rfl
end
end Dy
end

section
set_option linter.all false
set_option maxRecDepth 100000
set_option maxHeartbeats 2000000
set_option Elab.async false
/-! Dy, part S: statements. -/
namespace Dy
open PySem PySem.Spec PyProof.Rows L2
section
variable {ca : Str → Addr} {ea : Ec} {W : Option WX} {T : Cl} {X : Cx} {s : SE}
def knownT (s : SE) : Expr → Bool
  | .Name x _ => (s.ks.lookup x).isSome
  | _ => true
/-- what swappedStores gives, by the kinds that the text tells -/
def swKs (s : SE) (ts vs : List Expr) : Option (Option (List Str)) :=
  if !(ts.length == 2 || ts.length == 3) || vs.length != ts.length then some none
  else if vs.any (fun | .Starred .. => true | _ => false) then some none
  else if !ts.all (knownT s) then none
  else
    let line := (ts.head?.map (·.pos.line)).getD 0
    let names := ts.filterMap fun
      | .Name id pos => if s.ks.lookup id == some .local && pos.line == line then some id else none
      | _ => none
    if names.length != ts.length || names.eraseDups.length != names.length then some none
    else if vs.all (foldedForSure 8) then some none
    else if vs.all (constantsAlone 8) then none
    else some (some names)
def swK (s : SE) (targets : List Expr) (value : Expr) : Option (Option (List Str)) := match targets with
  | [.Tuple ts _ _] => (match value with
    | .Tuple vs _ _ => swKs s ts vs
    | _ => some none)
  | [.Name _ _] => some none
  | [.Subscript _ _ _] => some none
  | [.Attribute _ _ _] => some none
  | _ => none
theorem kind_loc (F : Fit W T (kX X ca ea) X s) {x : Str} (h : (s.ks.lookup x).isSome = true) : (X.env.kindOf x == some .local) = (s.ks.lookup x == some .local) := by
  obtain ⟨c, hc⟩ := Option.isSome_iff_exists.mp h
  show (X.env.scope.names.lookup x == some .local) = _
  rcases F.ks x c hc with e | ⟨rfl, e⟩
  · rw [e, hc]
  · rw [e, hc]; rfl
theorem sws_ok (F : Fit W T (kX X ca ea) X s) (hk : X.env.scope.kind = .function) {ts vs : List Expr} {k k' : Nat} {p p' : Pos} {r : Option (List Str)} (h : swKs s ts vs = some r) : swappedStores [.Tuple ts k p] (.Tuple vs k' p') X.env = pure r := by
  have bk : (X.env.blockKind != .function) = false := by unfold Env.blockKind; rw [hk]; rfl
  unfold swKs at h
  unfold swappedStores
  dsimp only
  rw [bk, Bool.or_false]
  split at h
  · rename_i e1; cases h; rw [if_pos e1]
  · rename_i e1
    rw [if_neg e1]
    split at h
    · rename_i e2; cases h; exact if_pos e2
    · rename_i e2
      refine Eq.trans (if_neg e2) ?_
      split at h
      · cases h
      · rename_i e3'
        have e3 : ts.all (knownT s) = true := by simpa using e3'
        have en : (ts.filterMap fun x => match x with
            | .Name id pos => if (X.env.kindOf id == some .local && pos.line == (ts.head?.map (·.pos.line)).getD 0) = true then some id else none
            | _ => none) = ts.filterMap fun x => match x with
            | .Name id pos => if (s.ks.lookup id == some .local && pos.line == (ts.head?.map (·.pos.line)).getD 0) = true then some id else none
            | _ => none := by
          generalize (ts.head?.map (·.pos.line)).getD 0 = line
          clear e1 e2 h e3'
          induction ts with
          | nil => rfl
          | cons t ts ih =>
            simp only [List.all_cons, Bool.and_eq_true] at e3
            simp only [List.filterMap_cons]
            rw [ih e3.2]
            cases t <;> try rfl
            rename_i id pos
            have := kind_loc F e3.1
            simp only [this]
        dsimp only at h
        show (fun n : List Str => if (n.length != ts.length || n.eraseDups.length != n.length) = true then (pure none : Sem (Option (List Str))) else if vs.all (foldedForSure 8) = true then pure none else if vs.all (constantsAlone 8) = true then (do
            unsupported "assign.tuple-of-constant-expressions:order-of-the-stores"
            pure (some n)) else pure (some n)) (ts.filterMap fun x => match x with
            | .Name id pos => if (X.env.kindOf id == some .local && pos.line == (ts.head?.map (·.pos.line)).getD 0) = true then some id else none
            | _ => none) = pure r
        rw [en]
        dsimp only
        split at h
        · rename_i e4; cases h; rw [if_pos e4]
        · rename_i e4
          rw [if_neg e4]
          split at h
          · rename_i e5; cases h; rw [if_pos e5]
          · rename_i e5
            rw [if_neg e5]
            split at h
            · cases h
            · rename_i e6
              cases h
              rw [if_neg e6]
theorem sw_ok (F : Fit W T (kX X ca ea) X s) (hk : X.env.scope.kind = .function) {targets : List Expr} {value : Expr} {r : Option (List Str)} (h : swK s targets value = some r) : swappedStores targets value X.env = pure r := by
  unfold swK at h
  split at h
  · split at h
    · exact sws_ok F hk h
    · rename_i hn
      cases h
      unfold swappedStores
      cases value <;> first | rfl | (exact absurd rfl (hn _ _ _))
  · cases h; rfl
  · cases h; rfl
  · cases h; rfl
  · cases h
end
end Dy
end

section
set_option linter.all false
set_option maxRecDepth 100000
set_option maxHeartbeats 2000000
set_option Elab.async false
namespace Dy
open PySem PySem.Spec PyProof.Rows L2
section
variable {ca : Str → Addr} {ea : Ec} {W : Option WX} {T : Cl} {X : Cx} {s : SE} {pos : Pos}
/-! ### a, b = x, y -/
theorem row_go {r : Sl → Hh → R D} {n : Nat} (hr : RowN r n) (F : Sl → D → Hh → Fl) (σ : Sl) (h : Hh) : (r σ h).go σ (F σ) = (rowR (r σ h)).go σ fun l h => F σ (.tup l) h := by
  cases e : r σ h with
  | bad => rfl
  | ex c l h1 => rfl
  | ok d h1 => obtain ⟨l, rfl, _⟩ := hr _ _ _ _ e; rfl
theorem par_read {t : Tg} {r : Sl → Hh → R D} {n : Nat} (hr : RowN r n) {Z : Ends} {σV : L2.St} {H : Hp} (p : tS (kX X ca ea) W (asgR t r) Z σV H) :
    tA (kX X ca ea) W (rowE r) σV H fun b H1 => ∃ w1 σ a h1, w1.H = H1 ∧ WR (kX X ca ea) w1 h1 ∧ Sr (kX X ca ea) w1 σ σV ∧ RepL (kX X ca ea) w1 a b ∧ a.length = n ∧ postS (kX X ca ea) W w1 (match setT t (.tup a) σ h1 with
      | none => .bad
      | some σ => .nx σ h1) Z := by
  have p2 : tS (kX X ca ea) W (fun σ h => (rowR (r σ h)).go σ fun l h => match setT t (.tup l) σ h with
      | none => .bad
      | some σ => .nx σ h) Z σV H := p.imp0 fun σ h => row_go hr (fun σ x h => match setT t x σ h with
      | none => .bad
      | some σ => .nx σ h) σ h
  obtain ⟨w, σ, h, e, q, sr, p3⟩ := p2
  refine ⟨w, σ, h, e, q, sr, ?_⟩
  have p4 := postS.go (Rl := RepL (kX X ca ea)) sr p3
  show post _ _ _ _ _ (rowR (r σ h)) _
  cases er : rowR (r σ h) with
  | bad => rw [er] at p4; exact p4
  | ex c l h1 => rw [er] at p4; exact p4
  | ok l h1 =>
    rw [er] at p4
    have hl := rowN_rep hr er
    intro w' vs x q' rl
    dsimp only at p3
    rw [er] at p3
    exact ⟨w', σ, l, h1, rfl, q', sr.mono x.li, rl, hl, p3.mono x⟩
theorem psd_par2 {i j : Nat} {x y : Str} {a b : Expr} {r : Sl → Hh → R D} {px py pt : Pos} {kt k2 pt2} (hc : X.calm = true) (hN : X.N.Nodup) (hi : X.N[i]? = some x) (hj : X.N[j]? = some y) (hij : i ≠ j)
    (hx : X.env.scope.names.lookup x = some .local) (hy : X.env.scope.names.lookup y = some .local) (ha : PA X [a, b] (tA (kX X ca ea) W (rowE r))) (hr : RowN r 2)
    (hw : swappedStores [.Tuple [.Name x px, .Name y py] kt pt] (.Tuple [a, b] k2 pt2) X.env = pure (some [x, y])) :
    PS X (.Assign [.Tuple [.Name x px, .Name y py] kt pt] (.Tuple [a, b] k2 pt2) pos) (tS (kX X ca ea) W (asgR (.tp (.cons (.nm i) (.cons (.nm j) .nil))) r)) :=
  PS.imp (ps_par hc hN hi hj hij hx hy ha hw) fun Z σV H p => (par_read hr p).imp fun vs H1 ⟨w1, σ, l, h1, e1, q1, s1, r1, hl, p1⟩ => by
    subst e1
    match l, hl with
    | [d1, d2], _ =>
      obtain ⟨u, v, rfl, ru, rv⟩ := r1.two'
      simp only [setT, seqOf] at p1
      exact ⟨u, v, rfl, p1 w1 _ q1.refl q1 ((s1.set i ru).set j rv)⟩
theorem psd_par3 {i j l : Nat} {x y z : Str} {a b c : Expr} {r : Sl → Hh → R D} {px py pz pt : Pos} {kt k2 pt2} (hc : X.calm = true) (hN : X.N.Nodup) (hi : X.N[i]? = some x) (hj : X.N[j]? = some y) (hl : X.N[l]? = some z) (hij : i ≠ j) (hil : i ≠ l) (hjl : j ≠ l)
    (hx : X.env.scope.names.lookup x = some .local) (hy : X.env.scope.names.lookup y = some .local) (hz : X.env.scope.names.lookup z = some .local) (ha : PA X [a, b, c] (tA (kX X ca ea) W (rowE r))) (hr : RowN r 3)
    (hw : swappedStores [.Tuple [.Name x px, .Name y py, .Name z pz] kt pt] (.Tuple [a, b, c] k2 pt2) X.env = pure (some [x, y, z])) :
    PS X (.Assign [.Tuple [.Name x px, .Name y py, .Name z pz] kt pt] (.Tuple [a, b, c] k2 pt2) pos) (tS (kX X ca ea) W (asgR (.tp (.cons (.nm i) (.cons (.nm j) (.cons (.nm l) .nil)))) r)) :=
  PS.imp (ps_par3 hc hN hi hj hl hij hil hjl hx hy hz ha hw) fun Z σV H p => (par_read hr p).imp fun vs H1 ⟨w1, σ, l, h1, e1, q1, s1, r1, hl, p1⟩ => by
    subst e1
    match l, hl with
    | [d1, d2, d3], _ =>
      simp only [RepL] at r1
      obtain ⟨u, _, rfl, ru, v, _, rfl, rv, t, _, rfl, rt, rfl⟩ := r1
      simp only [setT, seqOf] at p1
      exact ⟨u, v, t, rfl, p1 w1 _ q1.refl q1 (((s1.set i ru).set j rv).set _ rt)⟩
/-! ### o[i] = e -/
def rPut (k : Kx) (W : Option WX) : TSet := fun o i v H Q => ∃ w h a d x σV, w.H = H ∧ WR k w h ∧ Rep k w a o ∧ Rep k w d i ∧ Rep k w x v ∧ post k W (fun _ (_ : Unit) (_ : V) => True) w σV (putD a d x h) fun _ H => Q H
theorem nodupK {pins : List (Addr × Obj)} {σ : L2.St} {H : Hp} {st : Shared} {a : Addr} {kvs : List (Key × V)} (I : Inv X pins σ H st) (e : H a = some (.dK kvs)) : (kvs.map (·.1)).Nodup := by
  obtain ⟨_, _, vs, rel, o, es, ep, _, _, _, _, _, nd⟩ := dk_of I.hok e
  rw [rel.keys]; exact nd
theorem set_D (hu : X.A.units + 1 < cLine) : PSet X (rPut (kX X ca ea) W) := by
  intro pins s σ H o i v ov iv u Q I ro ri rv ⟨w, h, a, d, x, σV, e, q, ra, rd, rx, p⟩
  subst e
  unfold putD at p
  cases a <;> first | exact False.elim p | skip
  rename_i n
  simp only at p
  split at p
  · rename_i l el
    cases d <;> first | exact False.elim p | skip
    rename_i j
    simp only at p
    split at p
    · rename_i hc
      obtain ⟨b, vs, rfl, hb, hl, rl⟩ := q.lst el ra
      cases rd.intI
      have hj : ixN vs.length j = some j.toNat := by
        unfold ixN
        rw [if_pos hc.1, if_pos (by rw [← rl.length]; omega)]
      refine set_list pins s σ _ _ _ _ ov iv u Q I ro ri rv ⟨b, vs, j, j.toNat, rfl, rfl, hl, hj, ?_⟩
      have x1 := q.le_wr (o := .lst (vs.set j.toNat v)) hb
      have rv' := Rep.mono x1.li _ _ rx
      have rl' := RepL.mono x1.li _ _ rl
      exact p (w.put b (.lst (vs.set j.toNat v))) .non x1 (q.wr hb ⟨_, upd_same, rl'.set rv' j.toNat⟩ rfl) trivial
    · exact False.elim p
  · rename_i l el
    split at p
    · rename_i hc
      obtain ⟨b, hb, o, ho, ro'⟩ := q.at_ el rfl
      obtain ⟨⟨key, rfl⟩, hs⟩ := homK_inv hc.1
      obtain ⟨kvs, rfl, r2⟩ := ro'.sc hs
      have := rd.key; subst this
      simp only [Rep] at ra
      obtain ⟨_, b', rfl, rb, _⟩ := ra
      have := rb b hb; subst this
      have lt : kvs.length < sizeLine := by rw [← r2.length]; exact hc.2
      cases (show ov = Value.ref _ from ro)
      refine d_setItem hu I (.k ho lt) ri rv fun s' I' => ⟨_, I', ?_⟩
      have x1 := q.le_wr (o := .dK (L2.putK kvs key v)) hb
      have r3 := RepP.put key (Rep.mono x1.li _ _ rd) (Rep.mono x1.li _ _ rx) (RepP.mono x1.li _ _ r2) (nodupK I ho)
      exact p (w.put b (.dK (L2.putK kvs key v))) .non x1 (q.wr hb ⟨_, upd_same, .inl ⟨_, rfl, r3⟩⟩ rfl) trivial
    · exact False.elim p
  · exact False.elim p
abbrev asgSR (ro ri re : Sl → Hh → R D) : Sl → Hh → Fl := fun σ h => (re σ h).go σ fun x h => (ro σ h).go σ fun a h => (ri σ h).go σ fun k h => (putD a k x h).go σ fun _ h => .nx σ h
theorem psd_asgS {o i e : Expr} {ro ri re : Sl → Hh → R D} {tp : Pos} (hu : X.A.units + 1 < cLine) (ho : PE X o (tE (kX X ca ea) W ro)) (hi : PE X i (tE (kX X ca ea) W ri)) (he : PE X e (tE (kX X ca ea) W re))
    (hs : swapsWithSole [.Subscript o i tp] e pos.line X.env = pure false) (hw : swappedStores [.Subscript o i tp] e X.env = pure none)
    (ha : ∀ v, assign (.Subscript o i tp) X.env v = (do
      let ov ← holding [v] (eval o X.env)
      let iv ← holding [v, ov] (eval i X.env)
      standAt tp
      holding [v, ov, iv] (setItem ov iv v)
      release [v, ov, iv] [])) : PS X (.Assign [.Subscript o i tp] e pos) (tS (kX X ca ea) W (asgSR ro ri re)) :=
  PS.imp (ps_asg he (pg_sub ho hi (set_D (W := W) (ca := ca) (ea := ea) hu) ha) hs hw) fun Z σV H p => by
    refine (tS.go (Rl := Rep (kX X ca ea)) p).imp fun x H1 ⟨w1, σ, dx, h1, e1, q1, s1, r1, p1⟩ => ?_
    subst e1
    refine ⟨w1, σ, h1, rfl, q1, s1, (postS.go (Rl := Rep (kX X ca ea)) s1 p1).imp fun a H2 ⟨w2, da, h2, e2, x2, q2, r2, p2⟩ => ?_⟩
    subst e2
    have s2 := s1.mono x2.li
    refine ⟨w2, σ, h2, rfl, q2, s2, (postS.go (Rl := Rep (kX X ca ea)) s2 p2).imp fun b H3 ⟨w3, db, h3, e3, x3, q3, r3, p3⟩ => ?_⟩
    subst e3
    have s3 := s2.mono x3.li
    refine ⟨w3, h3, da, db, dx, σV, rfl, q3, Rep.mono x3.li _ _ r2, r3, Rep.mono (x2.trans x3).li _ _ r1, ?_⟩
    exact (postS.go (Rl := fun _ (_ : Unit) (_ : V) => True) s3 p3).imp fun _ H4 ⟨w4, _, h4, e4, x4, q4, _, p4⟩ => by
      subst e4
      exact p4 w4 σV q4.refl q4 (s3.mono x4.li)
/-! ### i += e -/
def augF (f : Int → Int → Int) (i : Nat) (re : Sl → Hh → R D) : Sl → Hh → Fl := fun σ h => match σ[i]? with
    | some (some (.int v)) => (re σ h).go σ fun x h => match x with
      | .int w => .nx (σ.set i (some (.int (f v w)))) h
      | _ => .bad
    | _ => .bad
theorem aug_read {f : Int → Int → Int} {i : Nat} {re : Sl → Hh → R D} {Z : Ends} {σV : L2.St} {H : Hp} (p : tS (kX X ca ea) W (augF f i re) Z σV H) : tAug i (tE (kX X ca ea) W re) (ipI f) Z σV H := by
  obtain ⟨w, σ, h, e0, q, sr, p⟩ := p
  subst e0
  unfold augF at p
  split at p
  · rename_i v ev
    obtain ⟨u, hu, ru⟩ := sr.2 i _ ev
    cases ru.intI
    refine ⟨_, hu, w, σ, h, rfl, q, sr, (postS.go (Rl := Rep (kX X ca ea)) sr p).imp fun b H1 ⟨w1, a, h1, e1, x1, q1, r1, p1⟩ => ?_⟩
    subst e1
    cases a <;> first | exact False.elim p1 | skip
    cases r1.intI
    exact ⟨v, _, rfl, rfl, p1 w1 _ q1.refl q1 ((sr.mono x1.li).set i (Rep.int _))⟩
  · exact False.elim p
theorem psd_augA {i : Nat} {x : Str} {e : Expr} {re : Sl → Hh → R D} {tp : Pos} (hN : X.N.Nodup) (hi : X.N[i]? = some x) (hx : Loc X.env.scope x) (he : PE X e (tE (kX X ca ea) W re))
    (hf : X.fn x = true ∨ X.env.scope.names.lookup x = some .local) : PS X (.AugAssign (.Name x tp) .Add e pos) (tS (kX X ca ea) W (augF (fun v w => v + w) i re)) := PS.imp (ps_aug hN hi hx he ip_add hf) fun Z σV H p => aug_read p
theorem psd_augS {i : Nat} {x : Str} {e : Expr} {re : Sl → Hh → R D} {tp : Pos} (hN : X.N.Nodup) (hi : X.N[i]? = some x) (hx : Loc X.env.scope x) (he : PE X e (tE (kX X ca ea) W re))
    (hf : X.fn x = true ∨ X.env.scope.names.lookup x = some .local) : PS X (.AugAssign (.Name x tp) .Sub e pos) (tS (kX X ca ea) W (augF (fun v w => v - w) i re)) := PS.imp (ps_aug hN hi hx he ip_sub hf) fun Z σV H p => aug_read p
end
end Dy
end

section
set_option linter.all false
set_option maxRecDepth 100000
set_option maxHeartbeats 2000000
set_option Elab.async false
/-! Dy, part Star: a, b, *c = a tuple -/
namespace Dy
open PySem PySem.Spec PyProof.Rows L2
theorem walks_from {prog : Program} {w : World} {A : Around} {I : Addr} {fp wr : List Addr} {n : Nat} {P : Nat → Value → Prop} {St : Nat → Heap → Prop} (W : Walks prog w A I fp wr n P St) (k : Nat) (hk : k ≤ n) :
    Walks prog w A I fp wr (n - k) (fun j => P (k + j)) (fun j => St (k + j)) where
  sub := W.sub
  frame := fun i => W.frame (k + i)
  item := fun i s Q E hi st hQ => W.item (k + i) s Q E (by omega) st hQ
  done := fun s Q E st hQ => W.done s Q E (by rw [Nat.add_sub_cancel' hk] at st; exact st) hQ
  self := fun i => W.self (k + i)
variable {prog : Program} {w : World} {A : Around} {E : Value → Shared → Prop} {s : Shared}
theorem items_drop {items acc : Array Value} {i : Nat} (x : ItemsOf (fun j v => items[i + j]? = some v) acc (items.size - i)) : acc.toList = items.toList.drop i := by
  refine List.ext_getElem? fun j => ?_
  rw [List.getElem?_drop, Array.getElem?_toList, Array.getElem?_toList]
  cases e : acc[j]? with
  | some v => exact (x.2 j v e).symm
  | none =>
    rw [Array.getElem?_eq_none_iff] at e
    have := x.1
    exact (Array.getElem?_eq_none (by omega)).symm
theorem unpackItems_star {t : Addr} {items : Array Value} {i : Nat} {Q : List Value → Shared → Prop} (hh : A.handled = none) (ht : IsTup s.heap t items) (hi : i ≤ items.size) (hz : items.size ≤ sizeLine)
    (hQ : ∀ (s' : Shared), (∀ b o, s.heap.get? b = some o → s'.heap.get? b = some o) → s'.gens = s.gens → s'.drawn = s.drawn → s'.os = s.os → s.toks ≤ s'.toks →
      Q (items.toList.take i ++ [.ref s'.heap.objs.size]) { s' with heap := s'.heap.push { cls := .type "list", data := .seq (items.toList.drop i).toArray } }) :
    wpAny (model prog w) A (unpackItems (.ref t) (i + 1) (some i)) Q E s := by
  have hlt : t ≠ s.heap.objs.size := by obtain ⟨o, ho, _⟩ := ht; exact Nat.ne_of_lt (Heap.lt_size ho)
  unfold unpackItems
  refine wpAny_bind ?_
  unfold notIterableAtAll
  refine wpAny_bind (wpAny_specialOf ht.typeIs slot_tuple_iter.lookup ?_)
  refine wpAny_pure ?_
  simp only [Bool.false_eq_true, if_false]
  refine wpAny_bind (wpAny_holding (iter_tuple ht ?_))
  refine wpAny_bind (wpAny_holding (draw_tuple hlt i 0 _ _ ⟨_, Heap.get?_push_size _ rfl, rfl, rfl⟩ (ht.push _) (by omega) fun h₁ hit₁ hs₁ => ?_))
  have hlen : ¬ (List.take i (List.drop 0 items.toList)).length < i := by
    rw [List.drop_zero, List.length_take, Array.length_toList]; omega
  rw [if_neg hlen]
  have ht₁ : IsTup h₁ t items := (ht.push _).extBut hs₁.extBut hlt
  have W := (walks_from (Walks.tuple (prog := prog) (w := w) (A := A.in1) hh s.heap.objs.size t hlt items) i hi).toS
  rw [Nat.zero_add] at hit₁
  refine wpAny_bind (wpAny_holding (wpAny_collect_iter (T := "tuple_iterator") (.inr (.inr (.inr rfl))) W (fun j s st => ?_) ⟨hit₁, ht₁⟩ ?_ (by simp) (fun s' acc mv io => ?_) (by omega)))
  · obtain ⟨o, ho, hc, _⟩ := st.1
    exact ⟨o, ho, hc⟩
  · intro b hb
    have hI : s.heap.objs.size < h₁.objs.size := by obtain ⟨o, ho, _⟩ := hit₁; exact Heap.lt_size ho
    have hT : t < h₁.objs.size := by obtain ⟨o, ho, _⟩ := ht₁; exact Heap.lt_size ho
    simp only [List.mem_cons, List.not_mem_nil, or_false] at hb
    rcases hb with rfl | rfl
    · exact hI
    · exact hT
  · rw [items_drop io]
    have ha : i + 1 - 1 - i = 0 := by omega
    simp only [ha, Nat.not_lt_zero, if_false, Nat.sub_zero, List.take_length, List.drop_length, List.append_nil, List.drop_zero]
    refine wpAny_bind (wpAny_newList ?_)
    refine wpAny_pure ?_
    refine hQ s' (fun b o e => ?_) mv.gens mv.drawn mv.os mv.toks
    have hb : b ≠ s.heap.objs.size := Nat.ne_of_lt (Heap.lt_size e)
    exact mv.heap b o (by simpa using hb) (hs₁.extBut b o hb (Heap.get?_push_of_some _ e))
theorem draw_W {I : Addr} {fp wr : List Addr} {n : Nat} {P : Nat → Value → Prop} {St : Nat → Heap → Prop} (W : Walks prog w A I fp wr n P St) : ∀ (m i : Nat) (s : Shared) (Q : List Value → Shared → Prop), St i s.heap → i + m ≤ n →
    (∀ l h' tk, l.length = m → (∀ (j : Nat) v, l[j]? = some v → P (i + j) v) → St (i + m) h' → (∀ b o, b ∉ wr → s.heap.get? b = some o → h'.get? b = some o) → s.toks ≤ tk → Q l { s with heap := h', toks := tk }) → wpAny (model prog w) A (draw (.ref I) m) Q E s
  | 0, i, s, Q, st, _, hQ => by
    show wpAny _ _ (pure []) Q E s
    exact wpAny_pure (hQ [] s.heap s.toks rfl (fun j v e => by simp at e) st (fun _ _ _ e => e) (Nat.le_refl _))
  | m + 1, i, s, Q, st, hle, hQ => by
    show wpAny _ _ (pyNext (.ref I) >>= _) Q E s
    refine wpAny_bind (wpAny_with_toks (Nat.le_refl s.toks) (W.item i s _ _ (by omega) st fun v h₁ tk₁ hP st₁ hk₁ htk₁ => ?_))
    refine wpAny_bind (wpAny_holding (draw_W W m (i + 1) _ _ st₁ (by omega) fun l h₂ tk₂ hl hp st₂ hk₂ htk₂ => wpAny_pure ?_))
    refine hQ (v :: l) h₂ tk₂ (by simp [hl]) (fun j u e => ?_) (by rw [show i + (m + 1) = i + 1 + m by omega]; exact st₂) (fun b o hb e => hk₂ b o hb (hk₁ b o hb e)) (Nat.le_trans htk₁ htk₂)
    cases j with
    | zero => simp at e; subst e; exact hP
    | succ j => rw [show i + (j + 1) = i + 1 + j by omega]; exact hp j u (by simpa using e)
theorem unpackItems_starL {t : Addr} {items : Array Value} {i : Nat} {Q : List Value → Shared → Prop} (hh : A.handled = none) (ht : s.heap.IsList t items) (hi : i ≤ items.size) (hz : items.size ≤ sizeLine)
    (hQ : ∀ (s' : Shared), (∀ b o, s.heap.get? b = some o → s'.heap.get? b = some o) → s'.gens = s.gens → s'.drawn = s.drawn → s'.os = s.os → s.toks ≤ s'.toks →
      Q (items.toList.take i ++ [.ref s'.heap.objs.size]) { s' with heap := s'.heap.push { cls := .type "list", data := .seq (items.toList.drop i).toArray } }) :
    wpAny (model prog w) A (unpackItems (.ref t) (i + 1) (some i)) Q E s := by
  have hlt : t ≠ s.heap.objs.size := by obtain ⟨o, ho, _⟩ := ht; exact Nat.ne_of_lt (Heap.lt_size ho)
  unfold unpackItems
  refine wpAny_bind ?_
  unfold notIterableAtAll
  refine wpAny_bind (wpAny_specialOf ht.typeIs slot_list_iter.lookup ?_)
  refine wpAny_pure ?_
  simp only [Bool.false_eq_true, if_false]
  refine wpAny_bind (wpAny_holding (wpAny_pyIter_list ht ?_))
  have W0 := Walks.list (prog := prog) (w := w) (A := A) hh s.heap.objs.size t hlt items
  refine wpAny_bind (wpAny_holding (draw_W W0 i 0 _ _ ⟨⟨_, Heap.get?_push_size _ rfl, rfl, rfl⟩, ht.push _⟩ (by omega) fun l h₁ tk₁ hl hp st₁ hs₁ htk₁ => ?_))
  have hl2 : l = items.toList.take i := by
    refine List.ext_getElem? fun j => ?_
    cases e : l[j]? with
    | some v =>
      have := hp j v e
      rw [Nat.zero_add] at this
      have hj : j < i := by rw [← hl]; exact (List.getElem?_eq_some_iff.mp e).1
      rw [List.getElem?_take_of_lt hj, Array.getElem?_toList, this]
    | none =>
      rw [List.getElem?_eq_none_iff] at e
      exact (List.getElem?_eq_none (by rw [List.length_take]; omega)).symm
  subst hl2
  rw [if_neg (by omega)]
  rw [Nat.zero_add] at st₁
  have W := (walks_from (Walks.list (prog := prog) (w := w) (A := A.in1) hh s.heap.objs.size t hlt items) i hi).toS
  refine wpAny_bind (wpAny_holding (wpAny_collect_iter (T := "list_iterator") (.inr (.inr (.inl rfl))) W (fun j s st => ?_) st₁ ?_ (by simp) (fun s' acc mv io => ?_) (by omega)))
  · obtain ⟨o, ho, hc, _⟩ := st.1
    exact ⟨o, ho, hc⟩
  · intro b hb
    have hI : s.heap.objs.size < h₁.objs.size := by obtain ⟨o, ho, _⟩ := st₁.1; exact Heap.lt_size ho
    have hT : t < h₁.objs.size := by obtain ⟨o, ho, _⟩ := st₁.2; exact Heap.lt_size ho
    simp only [List.mem_cons, List.not_mem_nil, or_false] at hb
    rcases hb with rfl | rfl
    · exact hI
    · exact hT
  · rw [items_drop io]
    have ha : i + 1 - 1 - i = 0 := by omega
    simp only [ha, Nat.not_lt_zero, if_false, Nat.sub_zero, List.take_length, List.drop_length, List.append_nil]
    refine wpAny_bind (wpAny_newList ?_)
    refine wpAny_pure ?_
    refine hQ s' (fun b o e => ?_) mv.gens mv.drawn mv.os (Nat.le_trans htk₁ mv.toks)
    have hb : b ≠ s.heap.objs.size := Nat.ne_of_lt (Heap.lt_size e)
    exact mv.heap b o (by simpa using hb) (hs₁ b o (by simpa using hb) (Heap.get?_push_of_some _ e))
section
variable {X : Cx} {pos : Pos}
/-- a, b, *c = a tuple -/
def gTupS (K : PySem.W.Frag) (i : Nat) (t : TGs) : TG := fun v σ H Q => ∃ a xs, v = .ref a ∧ (SqL K H a xs ∨ SqT K H a xs) ∧ i ≤ xs.length ∧ ∀ p, H p = none → t (xs.take i ++ [.ref p]) σ (upd H p (.lst (xs.drop i))) Q
theorem vals_take {vs : List V} {us : List Value} (r : Vals vs us) (i : Nat) : Vals (vs.take i) (us.take i) := by
  induction r generalizing i with
  | nil => cases i <;> exact .nil
  | cons p q ih => cases i with
    | zero => exact .nil
    | succ i => exact .cons p (ih i)
theorem vals_drop {vs : List V} {us : List Value} (r : Vals vs us) (i : Nat) : Vals (vs.drop i) (us.drop i) := by
  induction r generalizing i with
  | nil => cases i <;> exact .nil
  | cons p q ih => cases i with
    | zero => exact .cons p q
    | succ i => exact ih i
theorem vals_snoc {vs : List V} {us : List Value} {v : V} {u : Value} (r : Vals vs us) (q : RelV v u) : Vals (vs ++ [v]) (us ++ [u]) := by
  induction r with
  | nil => exact .cons q .nil
  | cons p q ih => exact .cons p ih
theorem pg_star {es : List Expr} {k : Nat} {t : TGs} {i : Nat} (hc : X.calm = true) (h : PGs X es t) (hn : (assignEach es X.env).length = i + 1) (hst : (assignEach es X.env).findIdx? (·.1) = some i) :
    PG X (.Tuple es k pos) (gTupS X.K i t) := by
  refine ⟨fun pins s σ H v u Q I r hw => ?_⟩
  obtain ⟨a, xs, e1, hq, hl, hw⟩ := hw
  subst e1
  cases r
  obtain ⟨its, rv, hz, hu⟩ : ∃ its : List Value, Vals xs its ∧ xs.length ≤ sizeLine ∧ ∀ (Q : List Value → Shared → Prop) (E : Value → Shared → Prop), (∀ (s' : Shared), (∀ b o, s.heap.get? b = some o → s'.heap.get? b = some o) → s'.gens = s.gens → s'.drawn = s.drawn → s'.os = s.os → s.toks ≤ s'.toks →
      Q (its.toArray.toList.take i ++ [.ref s'.heap.objs.size]) { s' with heap := s'.heap.push { cls := .type "list", data := .seq (its.toArray.toList.drop i).toArray } }) → wpAny (model X.prog X.w) X.A (unpackItems (.ref a) (i + 1) (some i)) Q E s := by
    rcases hq with hq | hq
    · obtain ⟨its, rv, ht, hz⟩ := I.list hq
      exact ⟨its, rv, hz, fun Q E hQ => unpackItems_starL (I.ok.hd hc) ht.isList (by have := rv.length; simp; omega) (by have := rv.length; simp; omega) hQ⟩
    · obtain ⟨its, rv, ht, hz⟩ := I.tuple hq
      exact ⟨its, rv, hz, fun Q E hQ => unpackItems_star (I.ok.hd hc) ht (by have := rv.length; simp; omega) (by have := rv.length; simp; omega) hQ⟩
  rw [assign_Tuple]
  refine wpAny_bind (wpAny_standAt ?_)
  unfold unpack
  rw [hn, hst]
  refine wpAny_bind (wpAny_holding (hu _ _ fun s' hk e1 e2 e3 e4 => ?_))
  have es : s' = { s with heap := s'.heap, toks := s'.toks } := by
    cases s'
    cases e1; cases e2; cases e3
    rfl
  have I1 : Inv X pins σ H { s with heap := s'.heap, toks := s'.toks } := I.kept hk
  have hn0 : H s'.heap.objs.size = none := I1.hok.fresh (Nat.le_refl _)
  have I2 := I1.laid (h' := s'.heap.push { cls := .type "list", data := .seq (List.drop i its.toArray.toList).toArray }) (t' := s'.toks) (a := s'.heap.objs.size) (o := .lst (xs.drop i)) (fun c o e => Heap.get?_push_of_some _ e) (Nat.le_refl _)
    (show ObjOk X.prog X.w _ _ _ (.lst (xs.drop i)) from ⟨by rw [List.length_drop]; omega, its.drop i, _, vals_drop rv i, by rw [List.toList_toArray]; exact Heap.get?_push_size _ rfl⟩)
  rw [es]
  refine h.run pins _ σ _ (xs.take i ++ [.ref s'.heap.objs.size]) _ Q I2 ?_ (hw _ hn0)
  rw [List.toList_toArray]
  exact vals_snoc (vals_take rv i) rfl
end
end Dy
end

section
set_option linter.all false
set_option maxRecDepth 100000
set_option maxHeartbeats 2000000
set_option Elab.async false
/-! Dy, part Star2: a, b, *c = e, by the interpreter's -/
namespace Dy
open PySem PySem.Spec PyProof.Rows L2
def unstar : Tg → Tg
  | .cons (.star k) r => .cons (.nm k) r
  | .cons a r => .cons a (unstar r)
  | t => t
/-- the starred one's place: the last -/
def starAt : Tg → Option Nat
  | .cons (.star _) .nil => some 0
  | .cons (.star _) _ => none
  | .cons _ r => (starAt r).map (· + 1)
  | _ => none
theorem unstar_cons {a r : Tg} (ns : a.isStar = false) : unstar (.cons a r) = .cons a (unstar r) := by
  cases a <;> first | rfl | (exact Bool.noConfusion ns)
theorem starAt_cons {a r : Tg} (ns : a.isStar = false) : starAt (.cons a r) = (starAt r).map (· + 1) := by
  cases a <;> first | rfl | (exact Bool.noConfusion ns)
theorem star_set {h : Hh} : ∀ {t : Tg} {l : List D} {σ σ' : Sl} {i : Nat}, starAt t = some i → setT t (.tup l) σ h = some σ' → i ≤ l.length ∧ setT (unstar t) (.tup (l.take i ++ [.lst (l.drop i)])) σ h = some σ'
  | .cons a r, l, σ, σ', i, e, st => by
    by_cases ns : a.isStar = false
    · rw [starAt_cons ns] at e
      obtain ⟨j, e7, rfl⟩ := Option.map_eq_some_iff.mp e
      cases l with
      | nil => exact (setT_cons0 ns st).elim
      | cons d l =>
        obtain ⟨σ1, e1, e2⟩ := setT_cons ns st
        obtain ⟨h1, h2⟩ := star_set e7 e2
        refine ⟨by simp only [List.length_cons]; omega, ?_⟩
        rw [unstar_cons ns]
        show setT (.cons a (unstar r)) (.tup (d :: (l.take j ++ [.lst (l.drop j)]))) σ h = some σ'
        have e3 : setT (.cons a (unstar r)) (.tup (d :: (l.take j ++ [.lst (l.drop j)]))) σ h = match setT a d σ h with
            | some σ => setT (unstar r) (.tup (l.take j ++ [.lst (l.drop j)])) σ h
            | none => none := by
          cases a <;> first | (exact Bool.noConfusion ns) | (simp only [setT]; done) | rfl
        rw [e3, e1]
        exact h2
    · cases a <;> first | (exact (ns rfl).elim) | skip
      rename_i k
      cases r <;> first | (cases e; done) | skip
      cases e
      simp only [setT] at st
      exact ⟨Nat.zero_le _, st⟩
  | .nil, _, _, _, _, e, _ => by cases e
  | .nm _, _, _, _, _, e, _ => by cases e
  | .tp _, _, _, _, _, e, _ => by cases e
  | .star _, _, _, _, _, e, _ => by cases e
section
variable {X : Cx} {ca : Str → Addr} {ea : Ec} {W : Option WX} {pos : Pos}
theorem psd_asgStar {es : List Expr} {E : Expr} {t : Tg} {i kk : Nat} {tp : Pos} {r : Sl → Hh → R D} (hc : X.calm = true) (hg : PGs X es (gsD (kX X ca ea) (unstar t))) (hi : starAt t = some i)
    (hn : (assignEach es X.env).length = i + 1) (hst : (assignEach es X.env).findIdx? (·.1) = some i) (he : PE X E (tE (kX X ca ea) W r))
    (hs : swapsWithSole [.Tuple es kk tp] E pos.line X.env = pure false) (hw : swappedStores [.Tuple es kk tp] E X.env = pure none) :
    PS X (.Assign [.Tuple es kk tp] E pos) (tS (kX X ca ea) W (asgR (.tp t) r)) :=
  PS.imp (ps_asg he (pg_star hc hg hn hst) hs hw) fun Z σV H p => by
    refine (tS.go (Rl := Rep (kX X ca ea)) p).imp fun x H1 ⟨w1, σ, dx, h1, e1, q1, s1, r1, p1⟩ => ?_
    subst e1
    split at p1
    · exact False.elim p1
    · rename_i σ' st
      simp only [setT] at st
      split at st
      · rename_i l es
        obtain ⟨a, vs, rfl, hq, rl⟩ := q1.seqP es r1
        obtain ⟨h2, st2⟩ := star_set hi st
        refine ⟨a, vs, rfl, hq, by rw [← rl.length]; exact h2, fun p hp => ?_⟩
        have x := q1.le_put (o := .lst (vs.drop i)) hp
        have q2 := q1.put (o := .lst (vs.drop i)) hp
        refine ⟨w1.put p (.lst (vs.drop i)), σ, h1, l.take i ++ [.lst (l.drop i)], σ', rfl, q2, s1.mono x.li, RepL.append (RepL.mono x.li _ _ (rl.take i)) (.cons (Rep.lst_new (q1.nL hp) (rl.drop i) x.li) .nil), st2, fun σV' s' _ _ => ?_⟩
        exact p1 _ σV' x q2 s'
      · cases st
end
end Dy
end

section
set_option linter.all false
set_option maxRecDepth 100000
set_option maxHeartbeats 2000000
set_option Elab.async false
namespace Dy
open PySem PySem.Spec PyProof.Rows L2
/-- may a comprehension's value be stored by the other way (as the model has it) -/
def swapS (s : SE) (tg e : Expr) : Option Bool := match e with
  | .ListComp _ _ sc p => (match tg with
    | .Name t q => if (s.ks.lookup t).isSome then some (s.ks.lookup t == some .local && q.line == p.line && !(sc.names.any fun (n, k) => n == t && (k == .local || k == .cell))) else none
    | .Tuple _ _ _ => some false
    | .Subscript _ _ _ => some false
    | .Attribute _ _ _ => some false
    | _ => none)
  | .SetComp _ _ _ _ => none
  | .DictComp _ _ _ _ _ => none
  | _ => some false
def notComp : Expr → Bool
  | .ListComp _ _ _ _ => false
  | .SetComp _ _ _ _ => false
  | .DictComp _ _ _ _ _ => false
  | _ => true
structure CkS where
  one : SE → Stmt → Bool
  blk : SE → List Stmt → Bool
  hds : SE → List ExceptHandler → Bool
def CkS.o (f : SE → Stmt → Bool) : CkS := ⟨f, fun _ _ => false, fun _ _ => false⟩
/-- an except clause's suite -/
def SE.suite (s : SE) : SE := ⟨s.N, s.ks, [], false, true, s.xs, true⟩
/-- a clause's name -/
def ckAs (s : SE) (n : Option Nat) (nm : Option Str) : Bool := match n with
  | none => nm.isNone
  | some i => (match nm with
    | some x => s.N[i]? == some x && s.ks.lookup x == some .local
    | none => false)
/-- a raise with a class of ours -/
def ckRaise (k : EC) (row : SE → List Expr → Bool) (s : SE) (S : Stmt) : Bool := match S with
  | .Raise (some (.Call (.Name x _) Es [] _)) none _ => s.cm && !s.en && x == Str.ofString k.nm && s.glo x && s.xs.contains k && k.leaf && decide (Es.length = k.fs.length) && row s Es
  | _ => false
def isFrz : St → Bool
  | .frzv _ => true
  | _ => false
def lcOf : Ex → Option (Bool × Ex × Tg × Ex × Ex)
  | .lc m e t it c => some (m, e, t, it, c)
  | _ => none
def tupOf : Ex → Option Ex
  | .tup es => some es
  | _ => none
def parT : Tg → List Nat
  | .tp (.cons (.nm i) (.cons (.nm j) .nil)) => [i, j]
  | .tp (.cons (.nm i) (.cons (.nm j) (.cons (.nm l) .nil))) => [i, j, l]
  | _ => []
def ckPar (s : SE) (t : Tg) (row : SE → List Expr → Bool) (tg E : Expr) (ns : List Str) : Bool := match parT t with
  | [i, j] => (match tg with
    | .Tuple [.Name x _, .Name y _] _ _ => (match E with
      | .Tuple [a, b] _ _ => s.cm && s.N[i]? == some x && s.N[j]? == some y && i != j && s.ks.lookup x == some .local && s.ks.lookup y == some .local && ns == [x, y] && row s [a, b]
      | _ => false)
    | _ => false)
  | [i, j, l] => (match tg with
    | .Tuple [.Name x _, .Name y _, .Name z _] _ _ => (match E with
      | .Tuple [a, b, c] _ _ => s.cm && s.N[i]? == some x && s.N[j]? == some y && s.N[l]? == some z && i != j && i != l && j != l && s.ks.lookup x == some .local && s.ks.lookup y == some .local && s.ks.lookup z == some .local && ns == [x, y, z] && row s [a, b, c]
      | _ => false)
    | _ => false)
  | _ => false
/-- a, b, *c as a target -/
def ckStars (s : SE) : Tg → List Expr → Bool
  | .cons a r, es => match a with
    | .star k => (match r with
      | .nil => (match es with
        | [.Starred E _] => chkG s (.nm k) E
        | _ => false)
      | _ => false)
    | a => (match es with
      | e :: es => !a.isStar && notStar e && chkG s a e && ckStars s r es
      | [] => false)
  | _, _ => false
def ckStar (s : SE) (t : Tg) (tg : Expr) : Bool := match t with
  | .tp t => (match tg with
    | .Tuple es _ _ => s.cm && (starAt t).isSome && ckStars s t es
    | _ => false)
  | _ => false
def ckAsg (t : Tg) (e : Ex) (s : SE) (S : Stmt) : Bool := match S with
  | .Assign [tg] E _ => (match swK s [tg] E with
    | some none => (match swapS s tg E with
      | some false => (chk e).E s E && (ckStar s t tg || chkG s t tg)
      | some true => (match t with
        | .nm i => (match tg with
          | .Name y _ => (match lcOf e with
            | some (_, e', t', it, c) => s.N[i]? == some y && s.ks.lookup y == some .local && ckLc t' c.isTrueK (chk e') (chk c) (chk it) s E
            | none => false)
          | _ => false)
        | _ => false)
      | none => false)
    | some (some ns) => (match tupOf e with
      | some es => ckPar s t (chk es).L tg E ns
      | none => false)
    | none => false)
  | _ => false
def chkS : St → CkS
  | .nil => ⟨fun _ _ => false, fun _ l => l.isEmpty, fun _ _ => false⟩
  | .cons a r => ⟨fun _ _ => false, fun s l => if isFrz a then (chkS r).blk s l else match l with
    | S :: rest => (chkS a).one s S && (chkS r).blk s rest
    | [] => false, fun _ _ => false⟩
  | .asg t e => .o (ckAsg t e)
  | .asgS o i e => .o fun s S => match S with
    | .Assign [.Subscript O I p] E _ => plainIx I && notComp E && (chk o).E s O && (chk i).E s I && (chk e).E s E
    | _ => false
  | .aug i o e => .o fun s S => match S with
    | .AugAssign (.Name x _) op E _ => s.N[i]? == some x && s.own x && (chk e).E s E && (match o with
      | .add => (match op with | .Add => true | _ => false)
      | .sub => (match op with | .Sub => true | _ => false)
      | _ => false)
    | _ => false
  | .ex e => .o fun s S => match S with
    | .Expr E _ => notComp E && (chk e).E s E
    | _ => false
  | .for_ t it b => .o fun s S => match S with
    | .For tg iter body [] _ => s.cm && notSet iter && (chk it).I s tg iter && chkG s t tg && (chkS b).blk s body
    | _ => false
  | .while_ c b => .o fun s S => match S with
    | .While C body [] _ => (chk c).T s C && (chkS b).blk s body
    | _ => false
  | .if_ c a b => .o fun s S => match S with
    | .If C A B _ => (chk c).T s C && (chkS a).blk s A && (chkS b).blk s B
    | _ => false
  | .ret e => .o fun s S => match S with
    | .Return (some E) _ => (chk e).E s E
    | _ => false
  | .retN => .o fun s S => match S with
    | .Return none _ => true
    | _ => false
  | .raise n k es => .o fun s S => s.rz || (!n && ckRaise k (chk es).L s S)
  | .brk => .o fun s S => match S with
    | .Break _ => true
    | _ => false
  | .cnt => .o fun s S => match S with
    | .Continue _ => true
    | _ => false
  | .pass => .o fun s S => match S with
    | .Pass _ => true
    | _ => false
  | .asgA _ _ _ => .o fun _ _ => false
  | .asgSS o i o' i' e e' => .o fun s S => match S with
    | .Assign [.Tuple [.Subscript O I _, .Subscript O' I' _] _ _] (.Tuple Es k2 p3) _ => s.cm && plainIx I && plainIx I' && (chk o).E s O && (chk i).E s I && (chk o').E s O' && (chk i').E s I' && (chk (.tup (.cons e (.cons e' .nil)))).E s (.Tuple Es k2 p3)
    | _ => false
  | .asgSN _ _ _ _ _ => .o fun _ _ => false
  | .again => .o fun _ _ => false
  | .try_ b hs => .o fun s S => match S with
    | .Try body (h :: l) [] [] _ => s.cm && !s.rz && !s.en && (chkS b).blk s body && (chkS hs).hds s (h :: l)
    | _ => false
  | .fin _ _ => .o fun _ _ => false
  | .hnil => ⟨fun _ _ => false, fun _ _ => false, fun _ l => l.isEmpty⟩
  | .hcons cs n b r => ⟨fun _ _ => false, fun _ _ => false, fun s l => match l with
    | .ExceptHandler (some (.Name x _)) nm (s0 :: ss) _ :: l => (match cs with
      | [d] => x == Str.ofString d.nm && s.glo x && s.xs.contains d && ckAs s n nm && (chkS b).blk s.suite (s0 :: ss) && (chkS r).hds s l
      | _ => false)
    | _ => false⟩
  | .frzv _ => .o fun _ _ => false
/-- what a body's context must be -/
structure FitS (W : Option WX) (cl : Cl) (k : Kx) (X : Cx) (s : SE) : Prop where
  fit : Fit W cl k X s
  kind : X.env.scope.kind = .function
  own : PassesOwn (model X.prog X.w) X.A X.env X.xe
  hs : X.stack = X.env :: X.outer
  hf : X.env.frame = some X.env.locals
  room : s.rz = false → Room 2 X.A
section
variable {ca : Str → Addr} {ea : Ec} {W : Option WX} {T : Cl} {X : Cx} {s : SE}
theorem swap_ok (F : Fit W T (kX X ca ea) X s) (hk : X.env.scope.kind = .function) {tg e : Expr} {line : Nat} {b : Bool} (h : swapS s tg e = some b) : swapsWithSole [tg] e line X.env = pure b := by
  have bk : (X.env.blockKind == .function) = true := by unfold Env.blockKind; rw [hk]; rfl
  unfold swapS at h
  split at h
  · rename_i el gs sc p
    split at h
    · rename_i t q
      split at h
      · rename_i hs
        cases h
        unfold swapsWithSole swapsWith
        dsimp only
        rw [bk, kind_loc F hs, Bool.true_and]
        rfl
      · cases h
    · cases h; rfl
    · cases h; rfl
    · cases h; rfl
    · cases h
  · cases h
  · cases h
  · rename_i n1 n2 n3
    cases h
    cases e <;> first | rfl | (exact absurd rfl (n1 _ _ _ _)) | (exact absurd rfl (n2 _ _ _ _)) | (exact absurd rfl (n3 _ _ _ _ _))
theorem comp_no {e : Expr} (h : notComp e = true) (t : Option Expr) (line : Nat) (env : Env) : swapsWith e t line env = pure false := by
  cases e <;> first | (exact Bool.noConfusion h) | rfl
end
end Dy
end

section
set_option linter.all false
set_option maxRecDepth 100000
set_option maxHeartbeats 2000000
set_option Elab.async false
/-! Dy: an exception is taken in hand, and put away. -/
namespace Dy
open PySem PySem.Spec PyProof.Rows L2
/-- e is in hand -/
abbrev hidE (e : Ec) (z : Option (Addr × Nat × Option Addr × EC)) : Ec := { e with hid := z }
abbrev hidK (k : Kx) (z : Option (Addr × Nat × Option Addr × EC)) : Kx := { k with ea := hidE k.ea z }
section
variable {k : Kx} {z z' : Option (Addr × Nat × Option Addr × EC)} {w : Wd}
/-- what is asked of the exception in hand -/
def HidUp (w : Wd) (z : Option (Addr × Nat × Option Addr × EC)) : Prop := ∀ a n dd, z = some (a, n, dd) → w.m.length ≤ n
mutual
theorem Rep.up (hz : HidUp w z') : ∀ (d : D) (v : V), Rep k w d v → Rep (hidK k z') w d v
  | .non, v, h => h
  | .bl _, v, h => h
  | .int _, v, h => h
  | .str _, v, h => h
  | .tup l, v, h => by
    simp only [Rep] at h ⊢
    obtain ⟨a, vs, e, s, r⟩ := h
    exact ⟨a, vs, e, s, RepL.up hz l vs r⟩
  | .lst l, v, h => by
    simp only [Rep] at h ⊢
    obtain ⟨a, vs, e, s, r⟩ := h
    exact ⟨a, vs, e, s, RepL.up hz l vs r⟩
  | .dct l, v, h => by
    simp only [Rep] at h ⊢
    obtain ⟨a, o, e, s, r⟩ := h
    exact ⟨a, o, e, s, r.imp (fun ⟨kvs, e, r⟩ => ⟨kvs, e, RepP.up hz l kvs r⟩) fun ⟨ps, e, ne, r⟩ => ⟨ps, e, ne, RepQ.up hz l ps r⟩⟩
  | .set _, v, h => h
  | .ref n, v, h => by
    simp only [Rep] at h ⊢
    obtain ⟨hl, a, e, q, q2⟩ := h
    exact ⟨hl, a, e, q, fun b dd e => absurd (hz _ _ _ e) (Nat.not_le_of_lt hl)⟩
  | .exc _ _, v, h => h
  | .scr l, v, h => h
  | .pr a b, v, h => by
    simp only [Rep] at h ⊢
    obtain ⟨p, y, z, e, s, ra, rb⟩ := h
    exact ⟨p, y, z, e, s, Rep.up hz a y ra, Rep.up hz b z rb⟩
theorem RepL.up (hz : HidUp w z') : ∀ (l : List D) (vs : List V), RepL k w l vs → RepL (hidK k z') w l vs
  | [], vs, h => h
  | d :: r, vs, h => by
    simp only [RepL] at h ⊢
    obtain ⟨v, vr, e, h1, h2⟩ := h
    exact ⟨v, vr, e, Rep.up hz d v h1, RepL.up hz r vr h2⟩
theorem RepP.up (hz : HidUp w z') : ∀ (l : List (D × D)) (kvs : List (Key × V)), RepP k w l kvs → RepP (hidK k z') w l kvs
  | [], kvs, h => h
  | (kd, d) :: r, kvs, h => by
    simp only [RepP] at h ⊢
    obtain ⟨key, v, vr, e, e2, h0, h1, h2⟩ := h
    exact ⟨key, v, vr, e, e2, Rep.up hz kd _ h0, Rep.up hz d v h1, RepP.up hz r vr h2⟩
theorem RepQ.up (hz : HidUp w z') : ∀ (l : List (D × D)) (ps : List (NestedKey × Addr × V)), RepQ k w l ps → RepQ (hidK k z') w l ps
  | [], ps, h => h
  | (kd, d) :: r, ps, h => by
    simp only [RepQ] at h ⊢
    obtain ⟨b, v, pr, e, e2, h0, h1, h2⟩ := h
    exact ⟨b, v, pr, e, e2, Rep.up hz kd _ h0, Rep.up hz d v h1, RepQ.up hz r pr h2⟩
end
theorem RepF.up (hz : HidUp w z') : ∀ (l : List (Str × D)) (fs : List (Str × V)), RepF k w l fs → RepF (hidK k z') w l fs
  | [], fs, h => h
  | (f, d) :: r, fs, h => by
    simp only [RepF] at h ⊢
    obtain ⟨v, vr, e, h1, h2⟩ := h
    exact ⟨v, vr, e, Rep.up hz d v h1, RepF.up hz r vr h2⟩
theorem RepO.up (hz : HidUp w z') {a : Addr} {b : Ob} (r : RepO k w a b) : RepO (hidK k z') w a b := by
  cases b with
  | lst l => obtain ⟨vs, h1, h2⟩ := r; exact ⟨vs, h1, RepL.up hz l vs h2⟩
  | dct l =>
    obtain ⟨o, h1, h2⟩ := r
    exact ⟨o, h1, h2.imp (fun ⟨kvs, e, r⟩ => ⟨kvs, e, RepP.up hz l kvs r⟩) fun ⟨ps, e, ne, r⟩ => ⟨ps, e, ne, RepQ.up hz l ps r⟩⟩
  | ins c fs => obtain ⟨dx, vf, h1, h2⟩ := r; exact ⟨dx, vf, h1, RepF.up hz fs vf h2⟩
  | dead => trivial
  | exc c l => exact r
theorem ExR.up (hz : HidUp w z') {c : EC} {l : List D} {u : Value} {dd : Option Addr} (h : ExR k w c l u dd) : ExR (hidK k z') w c l u dd := by
  obtain ⟨h1, h2, h3⟩ := h
  refine ⟨h1, h2, fun ne => ?_⟩
  obtain ⟨dx, vf, e, q, n, f⟩ := h3 ne
  refine ⟨dx, vf, e, q, n, fun i g d e1 e2 => ?_⟩
  obtain ⟨v, y, z⟩ := f i g d e1 e2
  exact ⟨v, y, Rep.up hz d v z⟩
theorem Sr.up (hz : HidUp w z') {σ : Sl} {σV : L2.St} (h : Sr k w σ σV) : Sr (hidK k z') w σ σV := ⟨h.1, fun i d e => by
  obtain ⟨v, h1, h2⟩ := h.2 i d e
  exact ⟨v, h1, Rep.up hz d v h2⟩⟩
mutual
theorem Rep.down (hz : k.ea.hid = none) : ∀ (d : D) (v : V), Rep (hidK k z) w d v → Rep k w d v
  | .non, v, h => h
  | .bl _, v, h => h
  | .int _, v, h => h
  | .str _, v, h => h
  | .tup l, v, h => by
    simp only [Rep] at h ⊢
    obtain ⟨a, vs, e, s, r⟩ := h
    exact ⟨a, vs, e, s, RepL.down hz l vs r⟩
  | .lst l, v, h => by
    simp only [Rep] at h ⊢
    obtain ⟨a, vs, e, s, r⟩ := h
    exact ⟨a, vs, e, s, RepL.down hz l vs r⟩
  | .dct l, v, h => by
    simp only [Rep] at h ⊢
    obtain ⟨a, o, e, s, r⟩ := h
    exact ⟨a, o, e, s, r.imp (fun ⟨kvs, e, r⟩ => ⟨kvs, e, RepP.down hz l kvs r⟩) fun ⟨ps, e, ne, r⟩ => ⟨ps, e, ne, RepQ.down hz l ps r⟩⟩
  | .set _, v, h => h
  | .ref n, v, h => by
    simp only [Rep] at h ⊢
    obtain ⟨hl, a, e, q, q2⟩ := h
    exact ⟨hl, a, e, q, fun b dd e => by rw [hz] at e; cases e⟩
  | .exc _ _, v, h => h
  | .scr l, v, h => h
  | .pr a b, v, h => by
    simp only [Rep] at h ⊢
    obtain ⟨p, y, z, e, s, ra, rb⟩ := h
    exact ⟨p, y, z, e, s, Rep.down hz a y ra, Rep.down hz b z rb⟩
theorem RepL.down (hz : k.ea.hid = none) : ∀ (l : List D) (vs : List V), RepL (hidK k z) w l vs → RepL k w l vs
  | [], vs, h => h
  | d :: r, vs, h => by
    simp only [RepL] at h ⊢
    obtain ⟨v, vr, e, h1, h2⟩ := h
    exact ⟨v, vr, e, Rep.down hz d v h1, RepL.down hz r vr h2⟩
theorem RepP.down (hz : k.ea.hid = none) : ∀ (l : List (D × D)) (kvs : List (Key × V)), RepP (hidK k z) w l kvs → RepP k w l kvs
  | [], kvs, h => h
  | (kd, d) :: r, kvs, h => by
    simp only [RepP] at h ⊢
    obtain ⟨key, v, vr, e, e2, h0, h1, h2⟩ := h
    exact ⟨key, v, vr, e, e2, Rep.down hz kd _ h0, Rep.down hz d v h1, RepP.down hz r vr h2⟩
theorem RepQ.down (hz : k.ea.hid = none) : ∀ (l : List (D × D)) (ps : List (NestedKey × Addr × V)), RepQ (hidK k z) w l ps → RepQ k w l ps
  | [], ps, h => h
  | (kd, d) :: r, ps, h => by
    simp only [RepQ] at h ⊢
    obtain ⟨b, v, pr, e, e2, h0, h1, h2⟩ := h
    exact ⟨b, v, pr, e, e2, Rep.down hz kd _ h0, Rep.down hz d v h1, RepQ.down hz r pr h2⟩
end
theorem RepF.down (hz : k.ea.hid = none) : ∀ (l : List (Str × D)) (fs : List (Str × V)), RepF (hidK k z) w l fs → RepF k w l fs
  | [], fs, h => h
  | (f, d) :: r, fs, h => by
    simp only [RepF] at h ⊢
    obtain ⟨v, vr, e, h1, h2⟩ := h
    exact ⟨v, vr, e, Rep.down hz d v h1, RepF.down hz r vr h2⟩
theorem RepO.down (hz : k.ea.hid = none) {a : Addr} {b : Ob} (r : RepO (hidK k z) w a b) : RepO k w a b := by
  cases b with
  | lst l => obtain ⟨vs, h1, h2⟩ := r; exact ⟨vs, h1, RepL.down hz l vs h2⟩
  | dct l =>
    obtain ⟨o, h1, h2⟩ := r
    exact ⟨o, h1, h2.imp (fun ⟨kvs, e, r⟩ => ⟨kvs, e, RepP.down hz l kvs r⟩) fun ⟨ps, e, ne, r⟩ => ⟨ps, e, ne, RepQ.down hz l ps r⟩⟩
  | ins c fs => obtain ⟨dx, vf, h1, h2⟩ := r; exact ⟨dx, vf, h1, RepF.down hz fs vf h2⟩
  | dead => trivial
  | exc c l => exact r
theorem Sr.down (hz : k.ea.hid = none) {σ : Sl} {σV : L2.St} (h : Sr (hidK k z) w σ σV) : Sr k w σ σV := ⟨h.1, fun i d e => by
  obtain ⟨v, h1, h2⟩ := h.2 i d e
  exact ⟨v, h1, Rep.down hz d v h2⟩⟩
/-- what holds anywhere -/
theorem Rep.ever {d : D} {v : V} (r : ∀ w, Rep k w d v) (w : Wd) : Rep (hidK k z) w d v :=
  Rep.mono (k := hidK k z) (w := ⟨w.L, [], w.H⟩) (w' := w) ⟨Nat.zero_le _, fun i a h => absurd h (Nat.not_lt_zero i), fun _ _ h => h, fun _ _ h => h⟩ d v (Rep.up (w := ⟨w.L, [], w.H⟩) (fun _ n _ _ => Nat.zero_le n) d v (r _))
/-- a place for the exception in hand -/
def Wd.hide (w : Wd) : Wd := ⟨w.L, w.m ++ [none], w.H⟩
theorem hide_get {i : Nat} {a : Addr} (e : w.hide.m[i]? = some (some a)) : i < w.m.length ∧ w.m[i]? = some (some a) := by
  have e : (w.m ++ [none])[i]? = some (some a) := e
  by_cases hi : i < w.m.length
  · rw [List.getElem?_append_left hi] at e; exact ⟨hi, e⟩
  · rw [List.getElem?_append_right (Nat.le_of_not_lt hi)] at e
    cases hj : i - w.m.length with
    | zero => rw [hj] at e; cases e
    | succ j => rw [hj] at e; simp at e
theorem le_hide (hl : ∀ (i : Nat) a, w.m[i]? = some (some a) → w.L a) : w.le w.hide where
  len := by show _ ≤ (w.m ++ [none]).length; simp
  old := fun i a _ e => (hide_get e).2
  new := fun i a hi e => absurd (hide_get e).1 (Nat.not_lt_of_le hi)
  L := fun _ z => .inl z
  keep := fun _ _ e _ => e
  trk := fun _ o e => ⟨o, e⟩
  live := hl
  hold := fun _ _ z _ _ => z
variable {h : Hh} {c : EC} {l : List D} {a : Addr} {dd : Option Addr}
theorem WR.hide (q : WR k w h) (hn : k.ea.hid = none) (r : ExR k w c l (.ref (k.ea.at_ c)) dd) : WR (hidK k (some (a, h.length, dd, c))) w.hide (h ++ [.exc c l]) := by
  have hz : HidUp w (some (a, h.length, dd, c)) := fun b n d e => by cases e; exact Nat.le_of_eq q.len
  have x := le_hide q.live
  have gt : ∀ {i : Nat} {o : Ob}, (h ++ [.exc c l])[i]? = some o → h[i]? = some o ∨ (i = h.length ∧ o = .exc c l) := fun {i o} e => by
    by_cases hi : i < h.length
    · rw [List.getElem?_append_left hi] at e; exact .inl e
    · rw [List.getElem?_append_right (Nat.le_of_not_lt hi)] at e
      cases hj : i - h.length with
      | zero => rw [hj] at e; exact .inr ⟨by omega, by simpa using e.symm⟩
      | succ j => rw [hj] at e; simp at e
  refine ⟨by show (w.m ++ [none]).length = _; simp [q.len], fun i o b e1 e2 => ?_, fun i o b e1 lv e2 => ?_, fun i o e1 lv => ?_, fun i j b e1 e2 => q.inj i j b (hide_get e1).2 (hide_get e2).2, fun i b e => q.live i b (hide_get e).2, q.trk, fun i c' l' e => ?_, fun b i d e => ?_⟩
  · obtain ⟨y1, y2⟩ := hide_get e2
    rcases gt e1 with e1 | ⟨rfl, _⟩
    · have : RepO (hidK k (some (a, h.length, dd, c))) w b o := (q.obs i o b e1 y2).up hz
      exact this.mono x.li rfl
    · rw [q.len] at y1; exact absurd y1 (Nat.lt_irrefl _)
  · obtain ⟨y1, y2⟩ := hide_get e2
    rcases gt e1 with e1 | ⟨rfl, _⟩
    · exact q.dead i o b e1 lv y2
    · rw [q.len] at y1; exact absurd y1 (Nat.lt_irrefl _)
  · rcases gt e1 with e1 | ⟨_, rfl⟩
    · obtain ⟨b, e⟩ := q.alive i o e1 lv
      exact ⟨b, by show (w.m ++ [none])[i]? = _; rw [List.getElem?_append_left (List.getElem?_eq_some_iff.mp e).1]; exact e⟩
    · cases lv
  · rcases gt e with e | ⟨rfl, e5⟩
    · obtain ⟨b, d, y, _⟩ := q.exc i c' l' e
      rw [hn] at y; cases y
    · cases e5
      have : ExR (hidK k (some (a, h.length, dd, c))) w c l (.ref (k.ea.at_ c)) dd := r.up hz
      exact ⟨a, dd, rfl, this.mono x.li⟩
  · cases e; simp
/-- the exception in hand, put away -/
theorem WR.unhide {z : Addr × Nat × Option Addr × EC} {w' : Wd} {h' : Hh} (q : WR (hidK k (some z)) w' h') (hn : k.ea.hid = none) (hm : ∀ b, w'.m[z.2.1]? ≠ some (some b)) : WR k w' (h'.set z.2.1 .dead) := by
  have gt : ∀ {i : Nat} {o : Ob}, (h'.set z.2.1 .dead)[i]? = some o → (i ≠ z.2.1 ∧ h'[i]? = some o) ∨ (i = z.2.1 ∧ o = .dead) := fun {i o} e => by
    by_cases hi : z.2.1 = i
    · subst hi
      rw [List.getElem?_set] at e
      simp only [if_true] at e
      split at e
      · cases e; exact .inr ⟨rfl, rfl⟩
      · cases e
    · rw [List.getElem?_set_ne hi] at e
      exact .inl ⟨fun y => hi y.symm, e⟩
  refine ⟨by rw [List.length_set]; exact q.len, fun i o b e1 e2 => ?_, fun i o b e1 lv e2 => ?_, fun i o e1 lv => ?_, q.inj, q.live, q.trk, fun i c' l' e => ?_, fun b i d e => by rw [hn] at e; cases e⟩
  · rcases gt e1 with ⟨_, e1⟩ | ⟨_, rfl⟩
    · exact (q.obs i o b e1 e2).down hn
    · trivial
  · rcases gt e1 with ⟨_, e1⟩ | ⟨rfl, _⟩
    · exact q.dead i o b e1 lv e2
    · exact hm b e2
  · rcases gt e1 with ⟨_, e1⟩ | ⟨_, rfl⟩
    · exact q.alive i o e1 lv
    · cases lv
  · rcases gt e with ⟨ne, e⟩ | ⟨_, e⟩
    · obtain ⟨b, d, y, _⟩ := q.exc i c' l' e
      cases y; exact absurd rfl ne
    · cases e
/-- the suite of 'except .. as e', and what is behind it -/
theorem as_read {W : Option WX} {f : Sl → Hh → Fl} {D : Ends} {σ : Sl} {σV : L2.St} {i : Nat} (q : WR k w h) (sr : Sr k w σ σV) (hn : k.ea.hid = none) (r : ExR k w c l (.ref (k.ea.at_ c)) dd)
    (p : postS k W w (unas i h.length (f (σ.set i (some (.ref h.length))) (h ++ [.exc c l]))) D) : tS (hidK k (some (a, h.length, dd, c))) none f (Hdl.ends (some i) D) (Hdl.slots (some i) a σV) w.H := by
  have hz : HidUp w (some (a, h.length, dd, c)) := fun b n d e => by cases e; exact Nat.le_of_eq q.len
  have x := le_hide q.live
  have nm : ∀ {w2 : Wd}, w.hide.le w2 → ∀ b, w2.m[h.length]? ≠ some (some b) := fun {w2} y b e => by
    have hl : h.length < w.hide.m.length := by show _ < (w.m ++ [none]).length; simp [q.len]
    have := (hide_get (y.old _ _ hl e)).1
    rw [q.len] at this; exact absurd this (Nat.lt_irrefl _)
  have rs : Rep (hidK k (some (a, h.length, dd, c))) w.hide (.ref h.length) (.ref a) := by
    simp only [Rep]
    refine ⟨by show _ < (w.m ++ [none]).length; simp [q.len], a, rfl, fun b e => ?_, fun b d e => by cases e; rfl⟩
    have := (hide_get e).1
    rw [q.len] at this; exact absurd this (Nat.lt_irrefl _)
  refine ⟨w.hide, σ.set i (some (.ref h.length)), h ++ [.exc c l], rfl, q.hide hn r, ((sr.up hz).mono x.li).set i rs, ?_⟩
  cases ef : f (σ.set i (some (.ref h.length))) (h ++ [.exc c l]) with
  | bad => rw [ef] at p; exact p
  | ex c' l' σ1 h1 => rw [ef] at p; exact False.elim p
  | nx σ1 h1 =>
    rw [ef] at p
    exact fun w2 σV2 y q2 s2 => p w2 _ (x.trans y) (q2.unhide hn (nm y)) ((s2.down hn).setN i)
  | bk σ1 h1 =>
    rw [ef] at p
    exact fun w2 σV2 y q2 s2 => p w2 _ (x.trans y) (q2.unhide hn (nm y)) ((s2.down hn).setN i)
  | ct σ1 h1 =>
    rw [ef] at p
    exact fun w2 σV2 y q2 s2 => p w2 _ (x.trans y) (q2.unhide hn (nm y)) ((s2.down hn).setN i)
  | rt d h1 =>
    rw [ef] at p
    exact fun w2 v y q2 r2 => p w2 v (x.trans y) (q2.unhide hn (nm y)) (Rep.down hn d v r2)
end
end Dy
end

section
set_option linter.all false
set_option maxRecDepth 100000
set_option maxHeartbeats 2000000
set_option Elab.async false
namespace Dy
open PySem PySem.Spec PyProof.Rows L2
section
variable {ca : Str → Addr} {ea : Ec} {T : Cl}
/-- what the clauses of a try do with an error of its body -/
def HdsOk (ca : Str → Addr) (ea : Ec) (T : Cl) (st : St) (W : Option WX) (X : Cx) (hs : List ExceptHandler) : Prop := ∃ l : List Hdl, Hdls X hs l ∧ ∀ (Wo : WX) (D : Ends) (c : EC) (lx : List Dy.D) (σ : Sl) (σV : L2.St) (w : Wd) (h : Hh) (u : Value) (dd : Option Addr), (∀ W0, W = some W0 → ∀ c d σ H, W0 c d σ H → Wo c d σ H) →
  WR (kX X ca ea) w h → Sr (kX X ca ea) w σ σV → ExR (kX X ca ea) w c lx u dd → postS (kX X ca ea) W w (exec T st (some (c, lx)) σ h) D → wHds X.K Wo D l u dd σV w.H
/-- what the checker of statements gives -/
structure SndS (ca : Str → Addr) (ea : Ec) (T : Cl) (st : St) : Prop where
  one : ∀ (W : Option WX) (X : Cx) (s : SE), FitS W T (kX X ca ea) X s → ∀ cur S, (chkS st).one s S = true → PS X S (tS (kX X ca ea) W fun σ h => exec T st cur σ h)
  blk : ∀ (W : Option WX) (X : Cx) (s : SE), FitS W T (kX X ca ea) X s → ∀ cur l, (chkS st).blk s l = true → PSs X l (tS (kX X ca ea) W fun σ h => exec T st cur σ h)
  hds : ∀ (W : Option WX) (X : Cx) (s : SE), FitS W T (kX X ca ea) X s → s.cm = true → ∀ l, (chkS st).hds s l = true → HdsOk ca ea T st W X l
theorem SndS.o {st : St} {f : SE → Stmt → Bool} (hc : chkS st = .o f) (h : ∀ (W : Option WX) (X : Cx) (s : SE), FitS W T (kX X ca ea) X s → ∀ cur S, f s S = true → PS X S (tS (kX X ca ea) W fun σ h => exec T st cur σ h)) : SndS ca ea T st :=
  ⟨fun W X s F cur S q => h W X s F cur S (by rw [hc] at q; exact q), fun W X s F cur l q => by rw [hc] at q; exact Bool.noConfusion q, fun W X s F _ l q => by rw [hc] at q; exact Bool.noConfusion q⟩
theorem SndS.no {st : St} (hc : chkS st = .o fun _ _ => false) : SndS ca ea T st := .o hc fun W X s F cur S q => Bool.noConfusion q
theorem PS.eq {k : Kx} {W : Option WX} {X : Cx} {S : Stmt} {f g : Sl → Hh → Fl} (h : PS X S (tS k W f)) (e : ∀ σ h, f σ h = g σ h) : PS X S (tS k W g) := PS.imp h fun D σV H p => p.imp0 fun σ h => (e σ h).symm
theorem PSs.eq {k : Kx} {W : Option WX} {X : Cx} {S : List Stmt} {f g : Sl → Hh → Fl} (h : PSs X S (tS k W f)) (e : ∀ σ h, f σ h = g σ h) : PSs X S (tS k W g) := PSs.imp h fun D σV H p => p.imp0 fun σ h => (e σ h).symm
theorem snds_nil : SndS ca ea T .nil := by
  refine ⟨fun W X s F cur S q => Bool.noConfusion q, fun W X s F cur l q => ?_, fun W X s F _ l q => Bool.noConfusion q⟩
  have q : l.isEmpty = true := q
  rw [List.isEmpty_iff] at q
  subst q
  exact PSs.eq psd_nil fun σ h => by simp only [exec]
theorem snds_cons {a r : St} (ha : SndS ca ea T a) (hr : SndS ca ea T r) : SndS ca ea T (.cons a r) := by
  refine ⟨fun W X s F cur S q => Bool.noConfusion q, fun W X s F cur l q => ?_, fun W X s F _ l q => Bool.noConfusion q⟩
  have q : (if isFrz a then (chkS r).blk s l else match (generalizing := false) l with
    | S :: rest => (chkS a).one s S && (chkS r).blk s rest
    | [] => false) = true := q
  split at q
  · rename_i hf
    cases a <;> first | (exact Bool.noConfusion hf) | skip
    rename_i i
    exact PSs.eq (psd_frz (i := i) (hr.blk W X s F cur l q)) fun σ h => by
      simp only [exec]
      rfl
  · cases l with
    | nil => exact Bool.noConfusion q
    | cons S rest =>
      have q : ((chkS a).one s S && (chkS r).blk s rest) = true := q
      rw [Bool.and_eq_true] at q
      exact PSs.eq (psd_cons (ha.one W X s F cur S q.1) (hr.blk W X s F cur rest q.2)) fun σ h => by simp only [exec]
theorem lcOf_inv {e : Ex} {m e' t it c} (h : lcOf e = some (m, e', t, it, c)) : e = .lc m e' t it c := by
  unfold lcOf at h
  split at h
  · cases h; rfl
  · cases h
theorem tupOf_inv {e es : Ex} (h : tupOf e = some es) : e = .tup es := by
  unfold tupOf at h
  split at h
  · cases h; rfl
  · cases h
theorem parT2 {t : Tg} {i j : Nat} (h : parT t = [i, j]) : t = .tp (.cons (.nm i) (.cons (.nm j) .nil)) := by
  unfold parT at h
  split at h <;> first | (cases h; rfl) | (exact absurd h (by simp))
theorem parT3 {t : Tg} {i j l : Nat} (h : parT t = [i, j, l]) : t = .tp (.cons (.nm i) (.cons (.nm j) (.cons (.nm l) .nil))) := by
  unfold parT at h
  split at h <;> first | (cases h; rfl) | (exact absurd h (by simp))
theorem Fit.loc {W : Option WX} {X : Cx} {s : SE} (F : Fit W T (kX X ca ea) X s) {x : Str} (h : s.ks.lookup x = some .local) : X.env.scope.names.lookup x = some .local := by
  rcases F.ks x _ h with e | ⟨e, _⟩
  · exact e
  · cases e
theorem ckStars_ok {W : Option WX} {X : Cx} {s : SE} (F : Fit W T (kX X ca ea) X s) : ∀ (t : Tg) (es : List Expr) (i : Nat), starAt t = some i → ckStars s t es = true → PGs X es (gsD (kX X ca ea) (unstar t)) ∧ (assignEach es X.env).length = i + 1 ∧ (assignEach es X.env).findIdx? (·.1) = some i
  | .cons a r, es, i, e, h => by
    by_cases ns : a.isStar = false
    · rw [starAt_cons ns] at e
      obtain ⟨j, e7, rfl⟩ := Option.map_eq_some_iff.mp e
      have h2 : (match (generalizing := false) es with
        | e :: es => !a.isStar && notStar e && chkG s a e && ckStars s r es
        | [] => false) = true := by
        cases a <;> first | (exact Bool.noConfusion ns) | exact h
      cases es with
      | nil => cases h2
      | cons x es =>
        simp only [Bool.and_eq_true] at h2
        obtain ⟨⟨⟨_, g1⟩, g2⟩, g3⟩ := h2
        obtain ⟨k1, k2, k3⟩ := ckStars_ok F r es j e7 g3
        rw [unstar_cons ns]
        refine ⟨pgds_cons (chkG_ok F a x g2) k1 ns (asgn_map es X.env g1), ?_, ?_⟩
        · rw [asgn_cons es X.env g1, List.length_cons, k2]
        · rw [asgn_cons es X.env g1, List.findIdx?_cons, if_neg Bool.false_ne_true, k3]; rfl
    · cases a <;> first | (exact (ns rfl).elim) | skip
      rename_i k
      cases r <;> first | (cases e; done) | skip
      cases e
      simp only [ckStars] at h
      split at h
      · rename_i E p
        have nE : notStar E = true := by cases E <;> first | rfl | (simp [chkG] at h)
        have g : PGs X [E] (gsD (kX X ca ea) (.cons (.nm k) .nil)) := pgds_cons (chkG_ok F (.nm k) E h) pgds_nil rfl (asgn_map [] X.env nE)
        have eE : (assignEach [E] X.env).map (·.2) = (assignEach [.Starred E p] X.env).map (·.2) := by rw [asgn_map [] X.env nE]; rfl
        exact ⟨⟨fun pins s σ H vs us Q I r hq => by rw [← eE]; exact g.run pins s σ H vs us Q I r hq⟩, rfl, rfl⟩
      · cases h
  | .nil, _, _, e, _ => by cases e
  | .nm _, _, _, e, _ => by cases e
  | .tp _, _, _, e, _ => by cases e
  | .star _, _, _, e, _ => by cases e
theorem snds_asg (t : Tg) (e : Ex) : SndS ca ea T (.asg t e) := SndS.o rfl fun W X s F cur S q => by
  have Ft := F.fit
  unfold ckAsg at q
  split at q
  · rename_i tg E p
    split at q
    · rename_i hsw
      have hw := sw_ok Ft F.kind hsw
      split at q
      · rename_i hsp
        rw [Bool.and_eq_true] at q
        obtain ⟨q1, q2⟩ := q
        rw [Bool.or_eq_true] at q2
        by_cases qs : ckStar s t tg = true
        · unfold ckStar at qs
          split at qs
          · rename_i t
            split at qs
            · rename_i es kk tp
              simp only [Bool.and_eq_true] at qs
              obtain ⟨⟨c0, c1⟩, c2⟩ := qs
              obtain ⟨i, hi⟩ := Option.isSome_iff_exists.mp c1
              obtain ⟨g1, g2, g3⟩ := ckStars_ok Ft t es i hi c2
              exact PS.eq (psd_asgStar (Ft.calm c0) g1 hi g2 g3 ((snd e).oE W X s Ft E q1).1 (swap_ok Ft F.kind hsp) hw) fun σ h => by
                simp only [exec] <;> rfl
            · cases qs
          · cases qs
        have q : (chk e).E s E = true ∧ chkG s t tg = true := ⟨q1, q2.resolve_left qs⟩
        refine PS.eq (psd_asg ((snd e).oE W X s Ft E q.1).1 (chkG_ok Ft t tg q.2) (swap_ok Ft F.kind hsp) hw ?_) fun σ h => by
          simp only [exec] <;> rfl
        have : notStar tg = true := by
          cases tg <;> first | rfl | skip
          all_goals (cases t <;> first | (exact Bool.noConfusion q.2) | skip)
        rw [asgn_map [] X.env this]; rfl
      · rename_i hsp
        split at q
        · rename_i i
          split at q
          · rename_i y py
            split at q
            · rename_i m e' t' it c he
              have := lcOf_inv he
              subst this
              simp only [Bool.and_eq_true, beq_iff_eq] at q
              obtain ⟨⟨h1, h2⟩, h3⟩ := q
              obtain ⟨El, tg', It, ifs, scope, pos, own, rfl, ho, c1, c2, c3, c4, c5, c6, c7⟩ := (ckLc_inv h3).ex
              have hs1 : swapsWith (.ListComp El [⟨tg', It, ifs, 0⟩] scope pos) (some (.Name y py)) p.line X.env = pure true := by
                have := swap_ok Ft F.kind (line := p.line) hsp
                unfold swapsWithSole at this
                exact this
              refine PS.eq (psd_setLc (m := m) (rc := rT (evalE T c)) (re := evalE T e') (Ft.calm c1) Ft.nd (by rw [Ft.hN]; exact h1) (Ft.loc h2) hs1 ((snd it).oI W X s Ft tg' It c4) (blkD_ok Ft c2) (own_slots ho) (fun s0 H C cl fp => ?_) (fun s0 H C cl fp => ?_) (fun s0 H C cl fp => ?_) (notSet_fold c3 X.env)) fun σ h => ?_
              · exact chkG_ok (Ft.blk s0 H scope C cl fp) t' tg' c5
              · rcases c6 with ⟨rfl, h6⟩ | ⟨C', rfl, h6⟩
                · rw [kb_of h6]; exact pts_true
                · exact pts_one ((snd c).oT none _ _ (Ft.blk s0 H scope C cl fp) C' h6)
              · exact ((snd e').oE none _ _ (Ft.blk s0 H scope C cl fp) El c7).1
              · simp only [exec]
                rw [lc_ev m t' e' it c σ h] <;> rfl
            · cases q
          · cases q
        · cases q
      · cases q
    · rename_i ns hsw
      have hw := sw_ok Ft F.kind hsw
      split at q
      · rename_i es he
        have := tupOf_inv he
        subst this
        unfold ckPar at q
        split at q
        · rename_i i j ht
          have := parT2 ht
          subst this
          split at q
          · split at q
            · simp only [Bool.and_eq_true, beq_iff_eq, bne_iff_ne, ne_eq] at q
              obtain ⟨⟨⟨⟨⟨⟨⟨h1, h2⟩, h3⟩, h4⟩, h5⟩, h6⟩, rfl⟩, h8⟩ := q
              obtain ⟨g1, g2, g3⟩ := (snd es).oL W X s Ft _ h8
              exact PS.eq (psd_par2 (Ft.calm h1) Ft.nd (by rw [Ft.hN]; exact h2) (by rw [Ft.hN]; exact h3) h4 (Ft.loc h5) (Ft.loc h6) g1 g2 hw) fun σ h => by simp only [exec, evalE] <;> rfl
            · cases q
          · cases q
        · rename_i i j l ht
          have := parT3 ht
          subst this
          split at q
          · split at q
            · simp only [Bool.and_eq_true, beq_iff_eq, bne_iff_ne, ne_eq] at q
              obtain ⟨⟨⟨⟨⟨⟨⟨⟨⟨⟨⟨h1, h2⟩, h3⟩, h3'⟩, h4⟩, h4'⟩, h4''⟩, h5⟩, h6⟩, h6'⟩, rfl⟩, h8⟩ := q
              obtain ⟨g1, g2, g3⟩ := (snd es).oL W X s Ft _ h8
              exact PS.eq (psd_par3 (Ft.calm h1) Ft.nd (by rw [Ft.hN]; exact h2) (by rw [Ft.hN]; exact h3) (by rw [Ft.hN]; exact h3') h4 h4' h4'' (Ft.loc h5) (Ft.loc h6) (Ft.loc h6') g1 g2 hw) fun σ h => by simp only [exec, evalE] <;> rfl
            · cases q
          · cases q
        · cases q
      · cases q
    · cases q
  · cases q
end
end Dy
end

section
set_option linter.all false
set_option maxRecDepth 100000
set_option maxHeartbeats 2000000
set_option Elab.async false
/-! Dy, part S6: o[i], o'[i'] = a, b -/
namespace Dy
open PySem PySem.Spec PyProof.Rows L2
section
variable {X : Cx} {ca : Str → Addr} {ea : Ec} {W : Option WX} {pos : Pos} {w : Wd} {h : Hh} {σ : Sl} {σV : L2.St}
/-- o[i] = x, then the rest -/
abbrev putR (ro ri : Sl → Hh → R D) (x : D) (g : Hh → Fl) (σ : Sl) (h : Hh) : Fl := (ro σ h).go σ fun a h => (ri σ h).go σ fun k h => (putD a k x h).go σ fun _ h => g h
abbrev asgSSR (ro ri ro' ri' r : Sl → Hh → R D) : Sl → Hh → Fl := fun σ h => (r σ h).go σ fun t h => match t with
  | .tup [x, y] => putR ro ri x (fun h => putR ro' ri' y (fun h => .nx σ h) σ h) σ h
  | _ => .bad
theorem sub_step {ro ri : Sl → Hh → R D} {x : D} {v : V} {g : Hh → Fl} {Z : Ends} {Q : L2.St → Hp → Prop} (q : WR (kX X ca ea) w h) (s : Sr (kX X ca ea) w σ σV) (rx : Rep (kX X ca ea) w x v)
    (p : postS (kX X ca ea) W w (putR ro ri x g σ h) Z) (hQ : ∀ w4 h4, w.le w4 → WR (kX X ca ea) w4 h4 → Sr (kX X ca ea) w4 σ σV → postS (kX X ca ea) W w4 (g h4) Z → Q σV w4.H) :
    gSub (tE (kX X ca ea) W ro) (tE (kX X ca ea) W ri) (rPut (kX X ca ea) W) v σV w.H Q := by
  refine ⟨w, σ, h, rfl, q, s, (postS.go (Rl := Rep (kX X ca ea)) s p).imp fun a H2 ⟨w2, da, h2, e2, x2, q2, r2, p2⟩ => ?_⟩
  subst e2
  have s2 := s.mono x2.li
  refine ⟨w2, σ, h2, rfl, q2, s2, (postS.go (Rl := Rep (kX X ca ea)) s2 p2).imp fun b H3 ⟨w3, db, h3, e3, x3, q3, r3, p3⟩ => ?_⟩
  subst e3
  have s3 := s2.mono x3.li
  refine ⟨w3, h3, da, db, x, σV, rfl, q3, Rep.mono x3.li _ _ r2, r3, Rep.mono (x2.trans x3).li _ _ rx, ?_⟩
  exact (postS.go (Rl := fun _ (_ : Unit) (_ : V) => True) s3 p3).imp fun _ H4 ⟨w4, _, h4, e4, x4, q4, _, p4⟩ => by
    subst e4
    exact hQ w4 h4 (x2.trans (x3.trans x4)) q4 (s3.mono x4.li) p4
theorem psd_asgSS {o i o' i' E : Expr} {ro ri ro' ri' r : Sl → Hh → R D} {p1 p2 pt : Pos} {kt : Nat} (hu : X.A.units + 1 < cLine) (hc : X.calm = true)
    (ho : PE X o (tE (kX X ca ea) W ro)) (hi : PE X i (tE (kX X ca ea) W ri)) (ho' : PE X o' (tE (kX X ca ea) W ro')) (hi' : PE X i' (tE (kX X ca ea) W ri')) (he : PE X E (tE (kX X ca ea) W r))
    (hs : swapsWithSole [.Tuple [.Subscript o i p1, .Subscript o' i' p2] kt pt] E pos.line X.env = pure false) (hw : swappedStores [.Tuple [.Subscript o i p1, .Subscript o' i' p2] kt pt] E X.env = pure none)
    (ha : ∀ v, assign (.Subscript o i p1) X.env v = (do
      let ov ← holding [v] (eval o X.env)
      let iv ← holding [v, ov] (eval i X.env)
      standAt p1
      holding [v, ov, iv] (setItem ov iv v)
      release [v, ov, iv] []))
    (ha' : ∀ v, assign (.Subscript o' i' p2) X.env v = (do
      let ov ← holding [v] (eval o' X.env)
      let iv ← holding [v, ov] (eval i' X.env)
      standAt p2
      holding [v, ov, iv] (setItem ov iv v)
      release [v, ov, iv] [])) :
    PS X (.Assign [.Tuple [.Subscript o i p1, .Subscript o' i' p2] kt pt] E pos) (tS (kX X ca ea) W (asgSSR ro ri ro' ri' r)) :=
  PS.imp (ps_asg he (pg_seq hc (pgs_cons (pg_sub ho hi (set_D (W := W) (ca := ca) (ea := ea) hu) ha) (pgs_cons (pg_sub ho' hi' (set_D (W := W) (ca := ca) (ea := ea) hu) ha') pgs_nil)) (n := 2) rfl rfl) hs hw) fun Z σV H p => by
    refine (tS.go (Rl := Rep (kX X ca ea)) p).imp fun x H1 ⟨w1, σ, dx, h1, e1, q1, s1, r1, p1⟩ => ?_
    subst e1
    split at p1
    · rename_i d1 d2
      obtain ⟨a, vs, rfl, hq, rl⟩ := q1.seq (l := [d1, d2]) rfl r1
      obtain ⟨u, v, rfl, ru, rv⟩ := rl.two'
      refine ⟨a, [u, v], rfl, hq, rfl, u, [v], rfl, ?_⟩
      refine sub_step q1 s1 ru p1 fun w4 h4 x4 q4 s4 p4 => ?_
      refine ⟨v, [], rfl, sub_step q4 s4 (Rep.mono x4.li _ _ rv) p4 fun w5 h5 x5 q5 s5 p5 => ⟨rfl, ?_⟩⟩
      exact p5 w5 σV q5.refl q5 s5
    · exact False.elim p1
end
end Dy
end

section
set_option linter.all false
set_option maxRecDepth 100000
set_option maxHeartbeats 2000000
set_option Elab.async false
namespace Dy
open PySem PySem.Spec PyProof.Rows L2
section
variable {ca : Str → Addr} {ea : Ec} {T : Cl}
theorem snds_asgS (o i e : Ex) : SndS ca ea T (.asgS o i e) := SndS.o rfl fun W X s F cur S q => by
  have Ft := F.fit
  split at q
  · rename_i O I p E p2
    simp only [Bool.and_eq_true] at q
    obtain ⟨⟨⟨⟨h1, h2⟩, h3⟩, h4⟩, h5⟩ := q
    refine PS.eq (psd_asgS (by have := Ft.units; omega) ((snd o).oE W X s Ft O h3).1 ((snd i).oE W X s Ft I h4).1 ((snd e).oE W X s Ft E h5).1 ?_ ?_ ?_) fun σ h => by simp only [exec, asgSR]
    · cases E <;> first | (exact Bool.noConfusion h2) | rfl
    · cases E <;> first | (exact Bool.noConfusion h2) | rfl
    · intro v
      cases I <;> first | (exact Bool.noConfusion h1) | rfl
  · cases q
theorem swapped_sub {A I A' I' : Expr} {p1 p2 pt : Pos} {kt k2 : Nat} {Es : List Expr} {p3 : Pos} {env : Env} : swappedStores [.Tuple [.Subscript A I p1, .Subscript A' I' p2] kt pt] (.Tuple Es k2 p3) env = pure none := by
  unfold swappedStores
  simp only
  split
  · rfl
  · split
    · rfl
    · rfl
theorem snds_asgSS (o i o' i' e e' : Ex) : SndS ca ea T (.asgSS o i o' i' e e') := SndS.o rfl fun W X s F cur S q => by
  have Ft := F.fit
  split at q
  · rename_i O I p1 O' I' p2 kt pt Es k2 p3 p4
    simp only [Bool.and_eq_true] at q
    obtain ⟨⟨⟨⟨⟨⟨⟨h0, h1⟩, h2⟩, h3⟩, h4⟩, h5⟩, h6⟩, h7⟩ := q
    refine PS.eq (psd_asgSS (by have := Ft.units; omega) (Ft.calm h0) ((snd o).oE W X s Ft O h3).1 ((snd i).oE W X s Ft I h4).1 ((snd o').oE W X s Ft O' h5).1 ((snd i').oE W X s Ft I' h6).1 ((snd (.tup (.cons e (.cons e' .nil)))).oE W X s Ft _ h7).1 ?_ swapped_sub ?_ ?_) fun σ h => ?_
    · rfl
    · intro v
      cases I <;> first | (exact Bool.noConfusion h1) | rfl
    · intro v
      cases I' <;> first | (exact Bool.noConfusion h2) | rfl
    · simp only [exec, asgSSR, evalE]
      cases evalE T e σ h with
      | bad => rfl
      | ex c l h1 => rfl
      | ok x h1 =>
        cases h2 : evalE T e' σ h1 with
        | bad => simp only [R.bind, R.go, h2]
        | ex c l h1 => simp only [R.bind, R.go, h2]
        | ok y h1 => simp only [R.bind, R.go, h2]; rfl
  · cases q
theorem snds_aug (i : Nat) (o : Bo) (e : Ex) : SndS ca ea T (.aug i o e) := SndS.o rfl fun W X s F cur S q => by
  have Ft := F.fit
  split at q
  · rename_i x p op E p2
    simp only [Bool.and_eq_true, beq_iff_eq] at q
    obtain ⟨⟨⟨h1, h2⟩, h3⟩, h4⟩ := q
    obtain ⟨l1, l2⟩ := Ft.Loc h2
    have he := ((snd e).oE W X s Ft E h3).1
    have hi : X.N[i]? = some x := by rw [Ft.hN]; exact h1
    split at h4
    · split at h4
      · refine PS.eq (psd_augA Ft.nd hi l1 he l2) fun σ h => ?_
        simp only [exec, augF]
        cases e1 : σ[i]? with
        | none => rfl
        | some o => cases o with
          | none => rfl
          | some d => cases d <;> first | rfl | (dsimp only; cases evalE T e σ h <;> first | rfl | (rename_i x _; cases x <;> rfl))
      · cases h4
    · split at h4
      · refine PS.eq (psd_augS Ft.nd hi l1 he l2) fun σ h => ?_
        simp only [exec, augF]
        cases e1 : σ[i]? with
        | none => rfl
        | some o => cases o with
          | none => rfl
          | some d => cases d <;> first | rfl | (dsimp only; cases evalE T e σ h <;> first | rfl | (rename_i x _; cases x <;> rfl))
      · cases h4
    · cases h4
  · cases q
theorem snds_ex (e : Ex) : SndS ca ea T (.ex e) := SndS.o rfl fun W X s F cur S q => by
  split at q
  · simp only [Bool.and_eq_true] at q
    exact PS.eq (psd_expr ((snd e).oE W X s F.fit _ q.2).1 (comp_no q.1 _ _ _)) fun σ h => by simp only [exec]
  · cases q
theorem go_bind {α β : Type} (r : R α) (f : α → Hh → R β) (σ : Sl) (g : β → Hh → Fl) : (r.bind f).go σ g = r.go σ fun a h => (f a h).go σ g := by cases r <;> rfl
theorem snds_for (t : Tg) (it : Ex) {b : St} (hb : SndS ca ea T b) : SndS ca ea T (.for_ t it b) := SndS.o rfl fun W X s F cur S q => by
  have Ft := F.fit
  split at q
  · simp only [Bool.and_eq_true] at q
    obtain ⟨⟨⟨⟨h1, h2⟩, h3⟩, h4⟩, h5⟩ := q
    exact PS.eq (psd_for F.own (Ft.calm h1) ((snd it).oI W X s Ft _ _ h3) (chkG_ok Ft t _ h4) (hb.blk W X s F cur _ h5) (notSet_fold h2 X.env)) fun σ h => by
      simp only [exec, forR, srcE]
      exact go_bind _ _ _ _
  · cases q
theorem snds_while (c : Ex) {b : St} (hb : SndS ca ea T b) : SndS ca ea T (.while_ c b) := SndS.o rfl fun W X s F cur S q => by
  split at q
  · simp only [Bool.and_eq_true] at q
    exact PS.eq (psd_while F.own ((snd c).oT W X s F.fit _ q.1) (hb.blk W X s F cur _ q.2)) fun σ h => by
      simp only [exec, whileR]
      rfl
  · cases q
theorem snds_if (c : Ex) {a b : St} (ha : SndS ca ea T a) (hb : SndS ca ea T b) : SndS ca ea T (.if_ c a b) := SndS.o rfl fun W X s F cur S q => by
  split at q
  · simp only [Bool.and_eq_true] at q
    exact PS.eq (psd_if ((snd c).oT W X s F.fit _ q.1.1) (ha.blk W X s F cur _ q.1.2) (hb.blk W X s F cur _ q.2)) fun σ h => by
      simp only [exec]
      rfl
  · cases q
theorem snds_ret (e : Ex) : SndS ca ea T (.ret e) := SndS.o rfl fun W X s F cur S q => by
  split at q
  · exact PS.eq (psd_ret ((snd e).oE W X s F.fit _ q).1) fun σ h => by simp only [exec]
  · cases q
theorem snds_retN : SndS ca ea T .retN := SndS.o rfl fun W X s F cur S q => by
  split at q
  · exact PS.eq psd_retN fun σ h => by simp only [exec]
  · cases q
theorem snds_brk : SndS ca ea T .brk := SndS.o rfl fun W X s F cur S q => by
  split at q
  · exact PS.eq psd_brk fun σ h => by simp only [exec]
  · cases q
theorem snds_cnt : SndS ca ea T .cnt := SndS.o rfl fun W X s F cur S q => by
  split at q
  · exact PS.eq psd_cnt fun σ h => by simp only [exec]
  · cases q
theorem snds_pass : SndS ca ea T .pass := SndS.o rfl fun W X s F cur S q => by
  split at q
  · exact PS.eq psd_pass fun σ h => by simp only [exec]
  · cases q
end
end Dy
end

section
set_option linter.all false
set_option maxRecDepth 100000
set_option maxHeartbeats 2000000
set_option Elab.async false
/-! Dy: raise, try. -/
namespace Dy
open PySem PySem.Spec PyProof.Rows L2
section
variable {ca : Str → Addr} {ea : Ec} {T : Cl}
theorem look_mem {f : Str} {v : V} : ∀ {l : List (Str × V)}, (l.map (·.1)).Nodup → (f, v) ∈ l → l.lookup f = some v
  | [], _, h => by cases h
  | (g, u) :: r, nd, h => by
    simp only [List.map_cons, List.nodup_cons] at nd
    rw [List.lookup_cons]
    rcases List.mem_cons.mp h with e | h
    · cases e; simp
    · have : (f == g) = false := by
        rw [beq_eq_false_iff_ne]
        intro e
        exact nd.1 (by rw [← e]; exact List.mem_map.mpr ⟨(f, v), h, rfl⟩)
      rw [this]
      exact look_mem nd.2 h
theorem xd_rep {k : Kx} {w : Wd} : ∀ {fs : List Str} {l : List Dy.D} {vs : List V}, fs.Nodup → fs.length = l.length → RepL k w l vs → ∀ (i : Nat) (f : Str) d, fs[i]? = some f → l[i]? = some d → ∃ v, (fs.zip vs).reverse.lookup f = some v ∧ Rep k w d v
  | fs, l, vs, nd, hl, r, i, f, d, e1, e2 => by
    obtain ⟨v, hv, rv⟩ := r.get e2
    refine ⟨v, ?_, rv⟩
    have hm : (f, v) ∈ (fs.zip vs).reverse := by
      rw [List.mem_reverse]
      refine List.mem_of_getElem? (i := i) ?_
      rw [List.getElem?_zip_eq_some]
      exact ⟨e1, hv⟩
    have nd2 : ((fs.zip vs).reverse.map (·.1)).Nodup := by
      rw [List.map_reverse, (List.reverse_perm _).nodup_iff, List.map_fst_zip (by rw [hl, r.length]; exact Nat.le_refl _)]
      exact nd
    exact look_mem nd2 hm
theorem nil_of {es : Ex} {s : SE} (h : (chk es).L s [] = true) : es = .nil := by
  cases es <;> first | rfl | exact Bool.noConfusion h
theorem snds_raise (n : Bool) (c : EC) (es : Ex) : SndS ca ea T (.raise n c es) := SndS.o rfl fun W X s F cur S q => by
  replace q : (s.rz || (!n && ckRaise c (chk es).L s S)) = true := q
  cases hz : s.rz with
  | true =>
    have := F.fit.rz hz
    subst this
    refine psd_never fun σ h => ?_
    simp only [exec]
    cases evalE T es σ h with
    | bad => exact .inl rfl
    | ex k l h1 => exact .inr ⟨_, _, _, _, rfl⟩
    | ok x h1 =>
      simp only [R.go_ok]
      split
      · exact .inr ⟨_, _, _, _, rfl⟩
      · exact .inl rfl
  | false =>
    rw [hz, Bool.false_or, Bool.and_eq_true] at q
    replace q := q.2
    unfold ckRaise at q
    split at q
    · rename_i x p Es p2 p3
      simp only [Bool.and_eq_true, beq_iff_eq, decide_eq_true_eq] at q
      obtain ⟨⟨⟨⟨⟨⟨⟨h1, h2⟩, rfl⟩, h4⟩, h5⟩, h6⟩, h7⟩, h8⟩ := q
      have Ft := F.fit
      replace h5 := List.contains_iff_mem.mp h5
      have nb : c.blt = false := by cases c <;> first | rfl | cases h6
      have okc := Ft.xf.lf c h5 h6
      obtain ⟨cT, cN, cI⟩ := Ft.xf.cls c okc
      obtain ⟨g1, g2, g3⟩ := (snd es).oL W X s Ft Es h8
      have tk : Takes X (W.getD fun _ _ _ _ => False) := by
        cases hW : W with
        | none => exact takes_none5
        | some W0 => exact Ft.tk W0 hW
      refine PS.imp (ps_raise (Ft.calm h1) tk (mk_exc (c := c) (C := ea.at_ c) cI (F.room hz) (Ft.Gl h4) (Ft.xf.own c h5 nb) (by cases c <;> decide) g1 (fun e0 σ H R2 t => ?_) (fun e r e0 => ?_))) fun D σV H p => ?_
      · subst e0
        have en := nil_of h8
        subst en
        obtain ⟨w, σ', h, rfl, q, sr, t⟩ := t
        simp only [rowE, rowR, evalE, R.bind_ok, asTup] at t
        exact t.here q RepL.nil
      · subst e0
        simp only [List.all_cons, Bool.and_eq_true] at g3
        exact ⟨star_cons r X.env g3.1, star_any g3.2⟩
      · refine (tS.go (Rl := RepL (kX X ca ea)) (show tS (kX X ca ea) W (fun σ h => (rowR (evalE T es σ h)).go σ fun l h => if l.length = c.fs.length ∧ c.leaf = true then .ex c l σ h else .bad) D σV H from p.imp0 fun σ h => by simp only [exec]; cases evalE T es σ h <;> rfl)).imp fun vs H1 ⟨w1, σ, l, h1, e1, q1, s1, r1, p1⟩ => ?_
        subst e1
        split at p1
        · rename_i hl
          obtain ⟨W0, rfl, p1⟩ := p1
          refine ⟨by rw [← r1.length]; exact hl.1, fun e0 => ?_, fun ne dx hd => ?_⟩
          · exact p1 w1 _ none σV q1.refl q1 ⟨⟨⟨rfl, okc⟩, fun _ => rfl⟩, hl.1, fun ne => absurd e0 ne⟩ s1
          · have x := q1.le_put (o := .xd ((c.fs.map Str.ofString).zip vs).reverse) hd
            refine p1 (w1.put dx _) _ (some dx) σV x (q1.put hd) ⟨⟨⟨rfl, okc⟩, fun z => absurd z ne⟩, hl.1, fun _ => ⟨dx, _, rfl, upd_same, q1.nL hd, fun i f d e1 e2 => ?_⟩⟩ (s1.mono x.li)
            obtain ⟨v, v1, v2⟩ := xd_rep (k := kX X ca ea) (w := w1) (List.nodup_cons.mp (fs_nd c)).2 (by rw [List.length_map]; exact hl.1.symm) r1 i (Str.ofString f) d (by rw [List.getElem?_map, e1]; rfl) e2
            exact ⟨v, v1, Rep.mono x.li _ _ v2⟩
        · exact False.elim p1
    · cases q
/-! ### try -/
theorem Fit.tr {W : Option WX} {X : Cx} {s : SE} (F : Fit W T (kX X ca ea) X s) (hz : s.rz = false) {W' : WX} {pn : List (Addr × Obj)} {xe : Value → Shared → Prop} (he : s.en = false) (tk : Takes (X.tr pn xe) W') : Fit (some W') T (kX (X.tr pn xe) ca ea) (X.tr pn xe) s where
  hK := F.hK
  hN := F.hN
  nd := F.nd
  ks := F.ks
  fn := F.fn
  calm := F.calm
  guards := F.guards
  units := F.units
  blt := F.blt
  glo := F.glo
  tk := fun W0 e => by cases e; exact tk
  rz := fun z => by rw [hz] at z; cases z
  xf := F.xf
  nh := F.nh
  exc := fun z => by rw [he] at z; cases z
  call := F.call
theorem snds_try {b hs : St} (hb : SndS ca ea T b) (hh : SndS ca ea T hs) : SndS ca ea T (.try_ b hs) := SndS.o rfl fun W X s F cur S q => by
  split at q
  · rename_i body e0 es pos
    simp only [Bool.and_eq_true, Bool.not_eq_true'] at q
    obtain ⟨⟨⟨⟨h1, h2⟩, h3⟩, h4⟩, h5⟩ := q
    obtain ⟨l, hl, hw⟩ := hh.hds W X s F h1 _ h5
    have Ft := F.fit
    refine PS.imp (ps_try_hds (Wo := W.getD fun _ _ _ _ => False) (tb := fun W' => tS (kX X ca ea) (some W') fun σ h => exec T b cur σ h) F.hs F.hf Ft.nd (by
      cases hW : W with
      | none => exact takes_none5
      | some W0 => exact Ft.tk W0 hW) (fun W' pn xe tk own => ?_) hl) fun D σV H p => ?_
    · exact hb.blk (some W') (X.tr pn xe) s ⟨Ft.tr h2 h3 tk, F.kind, own, F.hs, F.hf, F.room⟩ cur body h4
    · obtain ⟨w, σ, h, e, q, sr, p⟩ := p
      refine ⟨w, σ, h, e, q, sr, ?_⟩
      simp only [exec] at p
      show postS (kX X ca ea) _ w (exec T b cur σ h) D
      cases eb : exec T b cur σ h with
      | ex c lx σ1 h1 =>
        rw [eb] at p
        refine ⟨_, rfl, fun w' u dd σV' x q' r s' => ?_⟩
        exact hw _ D c lx σ1 σV' w' h1 u dd (fun W0 e c d σ H z => by subst e; exact z) q' s' r (p.mono x)
      | nx σ1 h1 => rw [eb] at p; exact p
      | bk σ1 h1 => rw [eb] at p; exact p
      | ct σ1 h1 => rw [eb] at p; exact p
      | rt d h1 => rw [eb] at p; exact p
      | bad => rw [eb] at p; exact False.elim p
  · cases q
theorem snds_hnil : SndS ca ea T .hnil := by
  refine ⟨fun W X s F cur S q => Bool.noConfusion q, fun W X s F cur l q => Bool.noConfusion q, fun W X s F _ l q => ?_⟩
  have q : l.isEmpty = true := q
  rw [List.isEmpty_iff] at q
  subst q
  refine ⟨[], .nil, fun Wo D c lx σ σV w h u dd hWo q sr r p => ?_⟩
  simp only [exec] at p
  obtain ⟨W0, e, p⟩ := p
  exact hWo W0 e _ _ _ _ (p w u dd σV q.refl q r sr)
/-- a suite's context -/
theorem Fit.suite {W : Option WX} {X : Cx} {s : SE} (F : Fit W T (kX X ca ea) X s) {a : Addr} {pn : List (Addr × Obj)} {z : Option (Addr × Nat × Option Addr × EC)}
    (he : ∀ b n dd c, z = some (b, n, dd, c) → InHand (X.suite a pn) b (ea.at_ c) dd) : Fit none T (kX (X.suite a pn) ca (hidE ea z)) (X.suite a pn) s.suite where
  hK := rfl
  hN := F.hN
  nd := F.nd
  ks := F.ks
  fn := F.fn
  calm := fun z => Bool.noConfusion z
  guards := F.guards
  units := F.units
  blt := F.blt
  glo := fun x d e => by
    obtain ⟨v, u, g1, g2, g3⟩ := F.glo x d e
    exact ⟨v, u, g1, g2, fun w => Rep.ever (k := kX X ca ea) g3 w⟩
  tk := .none _
  rz := fun _ => rfl
  xf := ⟨F.xf.cls, F.xf.own, F.xf.blt, F.xf.lf, F.xf.exm, F.xf.kit⟩
  nh := fun z => Bool.noConfusion z
  exc := fun _ b n dd c e => he b n dd c e
  call := fun p hp => by cases hp
theorem snds_hcons (cs : List EC) (n : Option Nat) {b r : St} (hb : ∀ ea, SndS ca ea T b) (hr : SndS ca ea T r) : SndS ca ea T (.hcons cs n b r) := by
  refine ⟨fun W X s F cur S q => Bool.noConfusion q, fun W X s F cur l q => Bool.noConfusion q, fun W X s F cm l q => ?_⟩
  replace q : (match (generalizing := false) l with
    | .ExceptHandler (some (.Name x _)) nm (s0 :: ss) _ :: l => (match (generalizing := false) cs with
      | [d] => x == Str.ofString d.nm && s.glo x && s.xs.contains d && ckAs s n nm && (chkS b).blk s.suite (s0 :: ss) && (chkS r).hds s l
      | _ => false)
    | _ => false) = true := q
  split at q
  · rename_i x p1 nm s0 ss p2 l
    split at q
    · rename_i d
      simp only [Bool.and_eq_true, beq_iff_eq] at q
      obtain ⟨⟨⟨⟨⟨rfl, h2⟩, h3⟩, h4⟩, h5⟩, h6⟩ := q
      replace h3 := List.contains_iff_mem.mp h3
      have Ft := F.fit
      have hn := Ft.nh cm
      obtain ⟨l2, hl, hw⟩ := hr.hds W X s F cm l h6
      have nms : Names X (Str.ofString d.nm) (clsV (kX X ca ea) d) := by
        refine ⟨Ft.Gl h2, by cases d <;> decide, ?_⟩
        cases hb : d.blt with
        | true =>
          obtain ⟨m1, m2⟩ := Ft.xf.blt d h3 hb
          have : clsV (kX X ca ea) d = .type d.nm := by unfold clsV; rw [hb]; rfl
          rw [this]
          exact .inr ⟨m1, m2, by cases d <;> decide⟩
        | false =>
          have : clsV (kX X ca ea) d = .ref (ea.at_ d) := by unfold clsV; rw [hb]; rfl
          rw [this]
          exact .inl (Ft.xf.own d h3 hb)
      have FS : ∀ {a : Addr} {pn : List (Addr × Obj)} {z : Option (Addr × Nat × Option Addr × EC)}, (∀ b n dd c, z = some (b, n, dd, c) → InHand (X.suite a pn) b (ea.at_ c) dd) → FitS none T (kX (X.suite a pn) ca (hidE ea z)) (X.suite a pn) s.suite :=
        fun {a pn z} he => ⟨Ft.suite he, F.kind, PassesOwn.never, F.hs, F.hf, fun z => Bool.noConfusion z⟩
      have exm : ∀ {w : Wd} {c : EC} {lx : List Dy.D} {u : Value} {dd : Option Addr}, ExR (kX X ca ea) w c lx u dd → u = .ref (ea.at_ c) ∧ ea.ok c = true ∧ PySem.W.exmOne X.K u (clsV (kX X ca ea) d) = some (c.sub d) := fun {w c lx u dd} r => by
        obtain ⟨⟨⟨rfl, ok⟩, _⟩, _⟩ := r
        exact ⟨rfl, ok, Ft.xf.exm c ok d h3⟩
      cases n with
      | none =>
        cases nm with
        | some x => exact Bool.noConfusion h4
        | none =>
          refine ⟨_, .bare (ts := fun a cls dd => tS (kX X ca ea) none fun σ h => exec T b none σ h) nms (fun a oe cls dd pn hz hf => ?_) hl, fun Wo D c lx σ σV w h u dd hWo q sr r p => ?_⟩
          · exact (hb (hidE ea none)).blk none _ s.suite (FS fun b n dd c e => by cases e) none _ h5 |> fun z => by
              have e : hidE ea none = ea := by
                have hn : ea.hid = none := hn
                show (⟨ea.at_, ea.ok, none⟩ : Ec) = ea
                rw [← hn]
              rw [e] at z; exact z
          · obtain ⟨rfl, ok, ex⟩ := exm r
            simp only [exec, List.any_cons, List.any_nil, Bool.or_false] at p
            refine ⟨_, ex, fun e a ha => ?_, fun e => ?_⟩
            · rw [e] at p
              simp only [if_true] at p
              refine ⟨w, σ, h, rfl, q, sr, ?_⟩
              show postS (kX X ca ea) none w (exec T b none σ h) D
              cases ef : exec T b none σ h with
              | ex c' l' σ1 h1 => rw [ef] at p; exact False.elim p
              | nx σ1 h1 => rw [ef] at p; exact p
              | bk σ1 h1 => rw [ef] at p; exact p
              | ct σ1 h1 => rw [ef] at p; exact p
              | rt d h1 => rw [ef] at p; exact p
              | bad => rw [ef] at p; exact False.elim p
            · rw [e] at p
              exact hw Wo D c lx σ σV w h _ dd hWo q sr r p
      | some i =>
        cases nm with
        | none => exact Bool.noConfusion h4
        | some x =>
          have h4 : (s.N[i]? == some x && s.ks.lookup x == some .local) = true := h4
          simp only [Bool.and_eq_true, beq_iff_eq] at h4
          refine ⟨_, .as_ (ts := fun a cls dd D' σV' H' => ∃ n0 c, cls = .ref (ea.at_ c) ∧ tS (kX X ca (hidE ea (some (a, n0, dd, c)))) none (fun σ h => exec T b none σ h) D' σV' H') nms (by rw [Ft.hN]; exact h4.1) (Ft.loc h4.2) (fun a oe cls dd pn hz hf => ?_) hl, fun Wo D c lx σ σV w h u dd hWo q sr r p => ?_⟩
          · refine ⟨fun pins st σ H D I hq => ?_⟩
            obtain ⟨n0, c, rfl, hq⟩ := hq
            exact ((hb (hidE ea (some (a, n0, dd, c)))).blk none (X.suite a ((a, oe) :: pn)) s.suite (FS fun b n d c' e => by cases e; exact ⟨oe, List.mem_cons_self, hz, hf⟩) none _ h5).run pins st σ H D I hq
          · obtain ⟨rfl, ok, ex⟩ := exm r
            simp only [exec, List.any_cons, List.any_nil, Bool.or_false] at p
            refine ⟨_, ex, fun e a ha => ?_, fun e => ?_⟩
            · rw [e] at p
              simp only [if_true] at p
              exact ⟨h.length, c, rfl, as_read (k := kX X ca ea) q sr hn r p⟩
            · rw [e] at p
              exact hw Wo D c lx σ σV w h _ dd hWo q sr r p
    · cases q
  · cases q
/-- the checker is sound for statements -/
theorem snds : ∀ (st : St) (ea : Ec), SndS ca ea T st
  | .nil, _ => snds_nil
  | .cons a r, e => snds_cons (snds a e) (snds r e)
  | .asg t e, _ => snds_asg t e
  | .asgS o i e, _ => snds_asgS o i e
  | .aug i o e, _ => snds_aug i o e
  | .ex e, _ => snds_ex e
  | .for_ t it b, e => snds_for t it (snds b e)
  | .while_ c b, e => snds_while c (snds b e)
  | .if_ c a b, e => snds_if c (snds a e) (snds b e)
  | .ret e, _ => snds_ret e
  | .retN, _ => snds_retN
  | .raise n c es, _ => snds_raise n c es
  | .brk, _ => snds_brk
  | .cnt, _ => snds_cnt
  | .pass, _ => snds_pass
  | .asgA _ _ _, _ => .no rfl
  | .asgSS o i o' i' e e', _ => snds_asgSS o i o' i' e e'
  | .asgSN _ _ _ _ _, _ => .no rfl
  | .again, _ => .no rfl
  | .try_ b hs, e => snds_try (snds b e) (snds hs e)
  | .fin _ _, _ => .no rfl
  | .hnil, _ => snds_hnil
  | .hcons cs n b r, e => snds_hcons cs n (snds b) (snds r e)
  | .frzv _, _ => .no rfl
end
end Dy
end

section
set_option linter.all false
set_option maxRecDepth 100000
set_option maxHeartbeats 2000000
set_option Elab.async false
/-! Dy, part T: defs of the text, by the depth of their calls. -/
namespace Dy
open PySem PySem.Spec PyProof.Rows L2
/-- how a call with n values and the keywords ks binds -/
def PBind (K : PySem.W.Frag) (fd : FuncData) (k : Kx) (d : Fn) (ps : List Str) (n : Nat) (ks : List Str) : Prop :=
  ∀ (st : Shared) (us ws : List Value) (vs zs : List V), K.In st.heap → us.length = n → ws.length = ks.length → Vals vs us → Vals zs ws →
    ∃ (g : List V) (gu : List Value), BindsTo st fd ⟨us, ks.zip ws⟩ (ps.zip gu) ∧ Vals g gu ∧ g.length = ps.length ∧ ∀ w l m as, RepL k w l vs → RepL k w m zs → bindA d l ks m = some as → RepL k w as g
/-- the text that a program stands for -/
structure Pg where
  k : Kx
  mg : Str → Option Value
  base : Heap
  T : Tx
  fs : List (Str × Nat × List Str)
  rz : Bool
  xs : List EC
abbrev Pg.P (G : Pg) : Program := G.k.P
abbrev Pg.w (G : Pg) : World := G.k.wd
/-- a def as it stands behind the top -/
structure DefAt (G : Pg) (f : Str) (d : Fn) : Prop where
  ex : ∃ (a : Addr) (oc : Value) (od : Option Addr) (name qual : Str) (params : Arguments) (body : List Stmt) (scope : Scope) (dV kV doc pm : Value) (an : Option Addr) (cdv ct : Value) (osl : Array (Option Value)) (N ps : List Str),
    G.k.K.lookup a = some ⟨oc, od, .func (PySem.W.fnOf name qual params body scope dV kV doc pm an cdv ct), osl⟩ ∧ PySem.W.codeIn G.k.K cdv qual = true ∧ FnScope N ps scope ∧ N.length = d.ns ∧ G.mg f = some (.ref a) ∧
      PySem.W.keepIn G.k.K (.ref a) = true ∧ (chkS d.body).blk ⟨N, scope.names, G.fs, true, G.rz, G.xs, false⟩ body = true ∧ (∀ n ks, (f, n, ks) ∈ G.fs → PBind G.k.K (PySem.W.fnOf name qual params body scope dV kV doc pm an cdv ct) G.k d ps n ks)
structure Pg.Ok (G : Pg) : Prop where
  blt : ∀ x ∈ bltNames, G.mg x = none
  glo : ∀ x d, G.T.gl x = some d → ∃ v u, G.mg x = some u ∧ RelV v u ∧ ∀ w, Rep G.k w d v
  xf : XcF G.k G.mg G.xs
  nh : G.k.ea.hid = none
  defs : ∀ p ∈ G.fs, ∃ d, G.T.fn p.1 = some d ∧ DefAt G p.1 d
section
variable {k : Kx} {W : Option WX} {w : Wd} {h h' : Hh} {σ : L2.St}
/-- the wish of a callee -/
def wish (W : Option WX) (σ : L2.St) : Option WX := W.map fun W0 c d _ H => W0 c d σ H
theorem leave_post {fl : Fl} {Q : VK} (q0 : WR k w h) (p : post k W (Rep k) w σ (leave h fl) Q) : postS k (wish W σ) w fl { nx := fun _ H1 => Q .non H1, rt := Q } := by
  have hlen : ∀ {w'}, w.le w' → h.length ≤ w'.m.length := fun {w'} x => by rw [← q0.len]; exact x.len
  cases fl with
  | nx σ1 h1 =>
    intro w' σV x q _
    simp only [leave] at p
    split at p
    · rename_i hk
      exact p (w'.cut h.length) .non (le_cut q0 x) (q0.cut x q hk) Rep.non
    · exact p w' .non x q Rep.non
  | rt d h1 =>
    intro w' v x q r
    simp only [leave] at p
    split at p
    · rename_i hk
      exact p (w'.cut h.length) v (le_cut q0 x) (q0.cut x q hk.1) (Rep.cut (hlen x) d v r hk.2)
    · exact p w' v x q r
  | bk σ1 h1 => simp only [leave] at p; exact False.elim p
  | ct σ1 h1 => simp only [leave] at p; exact False.elim p
  | bad => simp only [leave] at p; exact False.elim p
  | ex c l σ1 h1 =>
    simp only [leave] at p
    split at p
    · rename_i hk
      obtain ⟨W0, rfl, p⟩ := p
      exact ⟨_, rfl, fun w' u dd σV x q r _ => p (w'.cut h.length) u dd (le_cut q0 x) (q0.cut x q hk.1) (ExR.cut (hlen x) r hk.2)⟩
    · obtain ⟨W0, rfl, p⟩ := p
      exact ⟨_, rfl, fun w' u dd σV x q r _ => p w' u dd x q r⟩
theorem sr_start {as : List D} {g : List V} {N : List Str} {ns : Nat} (r : RepL k w as g) (hN : N.length = ns) : Sr k w (as.map some ++ List.replicate (ns - as.length) none) (L2.start N g) := by
  have hl := r.length
  unfold L2.start
  refine ⟨by simp only [List.length_append, List.length_map, List.length_replicate]; omega, fun i d e => ?_⟩
  have hi : i < as.length := by
    apply Classical.byContradiction
    intro hc
    rw [List.getElem?_append_right (by simpa using Nat.le_of_not_lt hc)] at e
    rw [List.getElem?_replicate] at e
    split at e <;> cases e
  rw [List.getElem?_append_left (by simpa using hi), List.getElem?_map] at e
  cases ha : as[i]? with
  | none => rw [ha] at e; cases e
  | some d' =>
    rw [ha] at e
    cases e
    obtain ⟨v, hv, rv⟩ := r.get ha
    exact ⟨v, by rw [List.getElem?_append_left (by rw [List.length_map, ← hl]; exact hi), List.getElem?_map, hv]; rfl, rv⟩
end
/-- every def may be called, at a depth for which there is room -/
def AllCalls (G : Pg) (n : Nat) : Prop := ∀ (W : Option WX) (X : Cx), (G.rz = true → W = none) → X.prog = G.P → X.w = G.w → X.K = G.k.K → X.mg = G.mg → X.base = G.base → Room (n + 2) X.A → X.A.guards = some [] → TkW X W →
  ∀ p ∈ G.fs, CallOk W G.k (cl G.T n) X p.1 p.2.1 p.2.2
theorem fit_body {G : Pg} (ok : G.Ok) {n : Nat} (ih : AllCalls G n) {W : Option WX} {N : List Str} {ps : List Str} {qual : Str} {scope : Scope} {f : Addr} {cdv : Value} {A : Around} {outer : List Env} {s : Shared} {H : Hp} {E : XK}
    (S : FnScope N ps scope) (hr : Room (n + 1 + 2) A) (hg : A.guards = some []) (hz : G.rz = true → W = none) (hW : ∀ W0, W = some W0 → W0 = fun c d _ H => E c d H) :
    FitS W (cl G.T n) G.k (cxOf (L2.CX G.P G.w) G.P G.w G.k.K G.mg G.base N qual scope f cdv A outer s H E) ⟨N, scope.names, G.fs, true, G.rz, G.xs, false⟩ := by
  have hr' : Room (n + 2) (A.deeper (envOfC qual scope s.heap.objs.size f cdv)) := Room.deeper (k := n + 2) (hr.mono (by omega)) _
  have tk : TkW (cxOf (L2.CX G.P G.w) G.P G.w G.k.K G.mg G.base N qual scope f cdv A outer s H E) W := fun W0 e => by
    rw [hW W0 e]
    exact takes_of rfl rfl rfl rfl
  refine ⟨⟨rfl, rfl, S.nd, fun x c e => .inl e, fun _ _ => rfl, fun _ => rfl, hg, ?_, ok.blt, ok.glo, tk, hz, ok.xf, fun _ => ok.nh, fun z => Bool.noConfusion z, fun p hp W' X' hz' h1 h2 h3 h4 h5 h6 tk' => ?_⟩, S.kind, passes_of rfl, rfl, rfl, fun _ => hr'.mono (by omega)⟩
  · have := hr'.un
    show (A.deeper (envOfC qual scope s.heap.objs.size f cdv)).units + 120 < cLine
    omega
  · exact ih W' X' hz' h1 h2 h3 h4 h5 (by rw [h6]; exact hr') (by rw [h6]; exact hg) tk' p hp
/-- a def's run, from any place with room -/
theorem run_def {G : Pg} (ok : G.Ok) {n : Nat} (ih : AllCalls G n) {p : Str × Nat × List Str} (hp : p ∈ G.fs) {W : Option WX} {σ : L2.St} (hz : G.rz = true → W = none) {A : Around} {outer : List Env} {st : Shared} {E : XK} (hr : Room (n + 1 + 2) A) (hg : A.guards = some [])
    (hE : ∀ W0, wish W σ = some W0 → W0 = fun c d _ H => E c d H) : ∃ a, G.mg p.1 = some (.ref a) ∧ PySem.W.keepIn G.k.K (.ref a) = true ∧ ∀ (us ws : List Value) (vs zs : List V) (Q : VK) (w : Wd) (h : Hh) (l m : List D),
      Env0 G.P G.w G.k.K G.mg G.base A outer st w.H → Vals vs us → Vals zs ws → us.length = p.2.1 → ws.length = p.2.2.length → WR G.k w h → RepL G.k w l vs → RepL G.k w m zs → post G.k W (Rep G.k) w σ (run G.T (n + 1) p.1 l p.2.2 m h) Q →
      codeAny (model G.P G.w) A (.call (.ref a) ⟨us, p.2.2.zip ws⟩) (CR (L2.CX G.P G.w) outer G.P G.w w.H st Q E) st := by
  obtain ⟨d, hd, hh⟩ := ok.defs p hp
  obtain ⟨a, oc, od, name, qual, params, body, scope, dV, kV, doc, pm, an, cdv, ct, osl, N, ps, d1, d2, d3, d4, d5, d6, d7, d8⟩ := hh.ex
  refine ⟨a, d5, d6, fun us ws vs zs Q w h l m e0 r1 r2 l1 l2 qw rl rm q => ?_⟩
  unfold run at q
  rw [hd] at q
  dsimp only at q
  cases eb : bindA d l p.2.2 m with
  | none => rw [eb] at q; exact False.elim q
  | some as =>
    rw [eb] at q
    dsimp only at q
    have hK : G.k.K.In st.heap := e0.mod.kin.keeps fun b o z => (e0.bs b o z).1
    obtain ⟨g, gu, b1, b2, b3, b4⟩ := d8 p.2.1 p.2.2 (by cases p; exact hp) st us ws vs zs hK l1 l2 r1 r2
    have ra := b4 w l m as rl rm eb
    have hz' : G.rz = true → wish W σ = none := fun e => by rw [hz e]; rfl
    have F := fit_body (qual := qual) (f := a) (cdv := cdv) (outer := outer) (s := st) (H := w.H) (E := E) ok ih d3 hr hg hz' hE
    have tr := (snds (ca := G.k.ca) (T := cl G.T n) d.body G.k.ea).blk (wish W σ) (cxOf (L2.CX G.P G.w) G.P G.w G.k.K G.mg G.base N qual scope a cdv A outer st w.H E) _ F none body d7
    have rd := leave_post qw q
    exact enter_def (k := n + 2) d1 d2 d3 (hr.mono (by omega)) e0 b1 b2 b3 tr ⟨w, _, h, rfl, qw, sr_start ra d4, rd⟩
theorem all_calls {G : Pg} (ok : G.Ok) : ∀ n, AllCalls G n
  | 0 => fun W X hz h1 h2 h3 h4 h5 hr hg tk p hp => by
    obtain ⟨d, hd, hh⟩ := ok.defs p hp
    obtain ⟨a, oc, od, name, qual, params, body, scope, dV, kV, doc, pm, an, cdv, ct, osl, N, ps, d1, d2, d3, d4, d5, d6, d7, d8⟩ := hh.ex
    refine ⟨a, by rw [h4]; exact d5, by rw [h3]; exact d6, fun pins σ H st us ws vs zs Q I r1 r2 l1 l2 q => ?_⟩
    obtain ⟨w, h, l, m, _, _, _, _, q⟩ := q
    exact False.elim q
  | n + 1 => fun W X hz h1 h2 h3 h4 h5 hr hg tk p hp => by
    have hE : ∀ σ : L2.St, ∃ E : XK, (∀ W0, wish W σ = some W0 → W0 = fun c d _ H => E c d H) ∧ ∀ c d H1, E c d H1 → ∃ W0, W = some W0 ∧ W0 c d σ H1 := fun σ => by
      cases W with
      | none => exact ⟨fun _ _ _ => False, ⟨fun W0 (e : none = some W0) => (by cases e), fun c d H1 e => False.elim e⟩⟩
      | some W1 => exact ⟨fun c d H1 => W1 c d σ H1, ⟨fun W0 e => (by cases e; rfl), fun c d H1 e => ⟨W1, rfl, e⟩⟩⟩
    obtain ⟨a0, m0, k0, _⟩ := run_def (outer := X.stack) (st := X.s_0) (σ := []) (E := (hE []).choose) ok (all_calls ok n) hp hz hr hg (hE []).choose_spec.1
    refine ⟨a0, by rw [h4]; exact m0, by rw [h3]; exact k0, fun pins σ H st us ws vs zs Q I r1 r2 l1 l2 q => ?_⟩
    obtain ⟨w, h, l, m, rfl, qw, rl, rm, q⟩ := q
    obtain ⟨E, hE1, hE2⟩ := hE σ
    obtain ⟨a, m1, _, run1⟩ := run_def (outer := X.stack) (st := st) (E := E) ok (all_calls ok n) hp hz hr hg hE1
    rw [m0] at m1
    cases m1
    have e0 : Env0 G.P G.w G.k.K G.mg G.base X.A X.stack st w.H := by
      have := I.env0
      rw [h1, h2, h3, h4, h5] at this
      exact this
    refine wpAny_call ?_
    rw [h1, h2]
    refine codeAny_mono (run1 us ws vs zs Q w h l m e0 r1 r2 l1 l2 qw rl rm q) fun r s' hq => ?_
    cases r with
    | error e =>
      have hq : L2.CX G.P G.w X.stack w.H st E e s' := hq
      cases W with
      | none =>
        obtain ⟨_, _, _, c, dd, _, _, _, _, _, _, _, z⟩ := hq
        obtain ⟨W0, z, _⟩ := hE2 _ _ _ z
        cases z
      | some W1 =>
        refine tk W1 rfl e s' (XE.of_call I (fun c dd H1 z => ?_) (by rw [h1, h2]; exact hq))
        obtain ⟨W0, e, z⟩ := hE2 _ _ _ z
        cases e
        exact z
    | ok fl =>
      cases fl with
      | ret u => exact I.after (by rw [h1, h2]; exact hq)
      | next => exact False.elim hq
      | brk => exact False.elim hq
      | cont => exact False.elim hq
end Dy
end

section
set_option linter.all false
set_option maxRecDepth 100000
set_option maxHeartbeats 2000000
set_option Elab.async false
/-! Dy, part U: the law's own call, behind the top. -/
namespace Dy
open PySem PySem.Spec PyProof.Rows L2
/-- the law's call at the heap behind the top: the script is tracked, known to the object, or one of the module's own -/
theorem end_core {P : Program} {w : World} {K : PySem.W.Frag} {mg mb : Str → Option Value} {fa a : Addr} {s₁ : Shared} {vs : List Value} {ns : List Int}
    (KX : K.In s₁.heap) (hns : s₁.heap.Ns mainGlobals mg) (hb : s₁.heap.Ns builtinsNs mb) (hbb : ∀ x : Str, x ≠ "__name__" → mb x = bootBuiltins x) (hlim : s₁.heap.NoLimit) (hg : s₁.gens = #[])
    (ha : s₁.heap.get? a = some { cls := .type "list", data := .seq vs.toArray }) (hi : IntsAre vs ns) (hl : ns.length ≤ sizeLine)
    (go : ∀ (base : Heap) (H : Hp), Env0 P w K mg base callerA [] s₁ H → SqL K H a (ns.map V.int) →
      codeAny (model P w) callerA (.call (.ref fa) ⟨[.ref a], []⟩) (CR (L2.CX P w) [] P w H s₁ (fun v _ => v = .bl true) fun _ _ _ => False) s₁) :
    codeAny (model P w) callerA (.call (.ref fa) ⟨[.ref a], []⟩) (fun r s' => r = .ok (.ret (.bool true)) ∧ OldK s₁.heap s'.heap ∧ s'.os = s₁.os ∧ AllBare s'.gens) s₁ := by
  have rv := vals_ints hi
  have lv := hi.length
  have key : ∀ H : Hp, Only H → SqL K H a (ns.map V.int) → HOk P w H s₁.heap → (∀ b, H b ≠ none → b = a) → (H a ≠ none → K.lookup a = none) →
      codeAny (model P w) callerA (.call (.ref fa) ⟨[.ref a], []⟩) (fun r s' => r = .ok (.ret (.bool true)) ∧ OldK s₁.heap s'.heap ∧ s'.os = s₁.os ∧ AllBare s'.gens) s₁ := by
    intro H only sq hok onlyA notK
    have keepB : ∀ {b : Addr} {o : Obj}, s₁.heap.get? b = some o → H b = none → (hidT s₁.heap H).get? b = some o := fun x y => hidT_get x y
    have dictN : ∀ {b : Addr} {o : Obj} {es : Array DictEntry} {ep : Nat}, s₁.heap.get? b = some o → o.data = .dict es ep → H b = none := fun {b o es ep} x y => by
      cases q : H b with
      | none => rfl
      | some u =>
        have z : b = a := onlyA b (by rw [q]; simp)
        subst z
        rw [ha] at x; cases x
        cases (show Data.seq vs.toArray _ = Data.dict es ep from y)
    have nsB : ∀ {b : Addr} {m : Str → Option Value}, s₁.heap.Ns b m → (hidT s₁.heap H).Ns b m := fun {b m} ⟨o, es, ep, x, y, r⟩ => ⟨o, es, ep, keepB x (dictN x y), y, r⟩
    have kb : K.In (hidT s₁.heap H) := fun b o x => keepB (KX b o x) (by
      cases q : H b with
      | none => rfl
      | some u =>
        have z : b = a := onlyA b (by rw [q]; simp)
        subst z
        rw [notK (by rw [q]; simp)] at x; cases x)
    have md : L2.Mod K mg (hidT s₁.heap H) := ⟨kb, nsB hns, ⟨mb, nsB hb, hbb⟩, let ⟨mc, y1, y2⟩ := hlim; ⟨mc, nsB y1, y2⟩⟩
    have e0 : Env0 P w K mg (hidT s₁.heap H) callerA [] s₁ H := ⟨rfl, md, fun b o x => of_hidT x, Nat.le_of_eq (hidT_size _ _), trivial, fun b hm => absurd (show b ∈ ([] : List Addr) from hm) (by simp), hok, .of_eq hg⟩
    refine codeAny_mono (go _ H e0 sq) fun r s' h => ?_
    cases r with
    | error e =>
      obtain ⟨_, _, _, _, _, _, _, _, _, _, _, _, z⟩ := (show L2.CX P w [] H s₁ (fun _ _ _ => False) e s' from h)
      exact z.elim
    | ok fl =>
      cases fl with
      | next => exact False.elim h
      | brk => exact False.elim h
      | cont => exact False.elim h
      | ret u =>
        obtain ⟨v, H', os, bare, un, hok', r', q⟩ := h
        have q' : v = .bl true := q
        subst q'
        obtain rfl : u = Value.bool true := r'
        refine ⟨rfl, OldK.of_keep fun b o x => ?_, os, bare⟩
        cases q : H b with
        | none => exact un.keep b o x q (by intro z; exact absurd (show b ∈ ([] : List Addr) from z) (by simp)) (by simp)
        | some u =>
          rcases only b with z | ⟨ob, xs, z⟩
          · rw [q] at z; cases z
          · obtain ⟨x1, _⟩ := hok b _ z
            obtain ⟨x2, _⟩ := hok' b _ (un.frzs b ob _ z)
            rw [x] at x1; cases x1
            exact x2
  cases hk : K.lookup a with
  | some o =>
    have x := KX a o hk
    rw [ha] at x
    cases x
    exact key (fun _ => none) (fun _ => .inl rfl) (.inr ⟨_, vs.toArray, _, hk, rfl, rfl, rfl, by rw [List.size_toArray, lv]; exact hl, by simpa using rv⟩) (fun b u z => by cases (show (none : Option HO) = some u from z)) (fun b z => absurd rfl z) fun z => absurd rfl z
  | none =>
    refine key (fun b => if b = a then some (.frz { cls := .type "list", data := .seq vs.toArray } (.lst (ns.map V.int))) else none) (fun b => ?_) (.inl (.inr ⟨_, if_pos rfl⟩)) (fun b u z => ?_) (fun b z => ?_) fun _ => hk
    · by_cases hba : b = a
      · exact .inr ⟨_, _, if_pos hba⟩
      · exact .inl (if_neg hba)
    · by_cases hba : b = a
      · have z' := (if_pos hba).symm.trans z
        cases z'
        subst hba
        exact ⟨ha, by rw [List.length_map]; exact hl, vs, _, rv, ha⟩
      · cases (if_neg hba).symm.trans z
    · by_cases hba : b = a
      · exact hba
      · exact absurd (if_neg hba) z
end Dy
end

section
set_option linter.all false
set_option maxRecDepth 100000
set_option maxHeartbeats 2000000
set_option Elab.async false
namespace Dy
open PySem PySem.Spec PyProof.Rows L2
theorem wr_empty (k : Kx) (H : Hp) (hn : k.ea.hid = none) : WR k ⟨fun _ => False, [], H⟩ [] where
  len := rfl
  obs := fun i o a e _ => by simp at e
  dead := fun i o a e => by simp at e
  alive := fun i o e _ => by simp at e
  inj := fun i j a e _ => by
    have e : ([] : List (Option Addr))[i]? = some (some a) := e
    simp at e
  live := fun i a e => by
    have e : ([] : List (Option Addr))[i]? = some (some a) := e
    simp at e
  trk := fun a z => z.elim
  exc := fun i c l e => by simp at e
  hid := fun a i dd e => by rw [hn] at e; cases e
/-- what a law's text gives behind the top -/
structure LawAt (P : Program) (w : World) (k : Kx) (mg : Str → Option Value) (T : Tx) : Prop where
  P : k.P = P
  wd : k.wd = w
  ex : ∃ (fs : List (Str × Nat × List Str)) (rz : Bool) (xs : List EC), (∀ base, (⟨k, mg, base, T, fs, rz, xs⟩ : Pg).Ok) ∧ ((Str.ofString "law", 1, []) : Str × Nat × List Str) ∈ fs
/-- THE END: the row holds where the interpreter says True at every script -/
theorem dy_end {l : PySem.W.OpenLaw} {q : Program} {loose : List Str} {XP : (Str → Option Value) → Heap → Prop} {YP : World → Heap → Prop} {d : DefRec} (T : Tx) (n : Nat)
    (hn : l.most = some 63) (hdf : d.params.defaults = []) (hname : d.name = Str.ofString "law") (hr : Room (n + 1 + 2) callerA)
    (F : ∀ (w : World) (mg : Str → Option Value) (fa : Addr) (h : Heap), YP w h → h.Ns mainGlobals mg → mg d.name = some (.ref fa) → ∃ k : Kx, k.K.In h ∧ LawAt l.prog w k mg T)
    (hT : ∀ ns : List Int, ns.length ≤ 63 → ∃ h', run T (n + 1) (Str.ofString "law") [.scr ns] [] [] [] = .ok (.bl true) h') :
    PySem.W.WalkO q loose XP YP l.row.toRowW d [] (fun f vs => PySem.call f vs) := by
  refine Att.attach_call hn hdf fun w s₀ s₁ mg mb fa o pm cd doc a vs ns G Y ho hd hcd hmg hobj hints hlen hg => ?_
  obtain ⟨k, KX, hL⟩ := F w mg fa _ Y G.T.g hmg
  obtain ⟨fs, rz, xs, ok, hp⟩ := hL.ex
  obtain ⟨K, P', wd, ca, ea⟩ := k
  obtain rfl : P' = l.prog := hL.P
  obtain rfl : wd = w := hL.wd
  refine end_core KX G.T.g G.T.b G.T.builtins G.T.nolimit hg hobj hints (Nat.le_trans hlen (by decide)) fun base H e0 sq => ?_
  have okb := ok base
  obtain ⟨a', m1, _, go⟩ := run_def (σ := []) (W := none) (outer := []) (st := s₁) (E := fun _ _ _ => False) okb (all_calls okb n) hp (fun _ => rfl) hr rfl (fun W0 e => by cases e)
  have m1 : mg (Str.ofString "law") = some (.ref a') := m1
  rw [← hname, hmg] at m1
  cases m1
  obtain ⟨h', eT⟩ := hT ns hlen
  refine go [.ref a] [] [.ref a] [] _ ⟨fun _ => False, [], H⟩ [] [.scr ns] [] e0 (.cons rfl .nil) .nil rfl rfl (wr_empty _ H okb.nh) (.one ?_) .nil ?_
  · simp only [Rep]
    refine ⟨a, rfl, ?_⟩
    rcases sq with z | z
    · exact .inl ⟨z, fun y => y⟩
    · exact .inr z
  · rw [eT]
    intro w' b x q' r
    exact r.blI
end Dy
end

section
set_option linter.all false
set_option maxRecDepth 100000
set_option maxHeartbeats 2000000
set_option Elab.async false
/-! Dy: what the kernel reads of the classes of exceptions. -/
namespace Dy
open PySem PySem.Spec PyProof.Rows L2
/-- a class's own __init__ -/
structure XE where
  c : EC
  dd : He.DefD
def xAt (K : PySem.W.Frag) (c : EC) : Addr := He.ga K (Str.ofString c.nm)
def ecOf (K : PySem.W.Frag) (xs : List EC) : Ec := ⟨xAt K, fun c => decide (c ∈ xs) && c.leaf, none⟩
/-- the base that __init__ calls -/
def EC.base : EC → String
  | .noName => "KeyError"
  | _ => "DayError"
def EC.tl : EC → List Value
  | .noName => tlK
  | _ => tlV
def EC.nid : EC → String
  | .noName => "LookupError.__new__"
  | _ => "ValueError.__new__"
def EC.iid : EC → String
  | .noName => "KeyError.__init__"
  | _ => "ValueError.__init__"
def xV (K : PySem.W.Frag) (d : EC) : Value := if d.blt then .type d.nm else .ref (xAt K d)
def mkB (K : PySem.W.Frag) (C : Addr) (nid : String) (tl : List Value) : Bool := match K.lookup C with
  | some ⟨.type t, _, .cls cd, sl⟩ => (match cd.mro, sl.toList with
    | .ref C' :: bm, [_, _, _, _, some (.builtin n), _] => decide (t = "type") && C' == C && n == nid && !cd.hasDel && cd.hasDict && refsTo tl bm
    | _, _ => false)
  | _ => false
theorem mkB_ok {K : PySem.W.Frag} {C : Addr} {nid : String} {tl : List Value} (q : mkB K C nid tl = true) : ∃ nm qn N bs bm sn sub ab col dd k0 k1 k2 k3 k5, K.lookup C = some (excClassObj nm qn C N bs bm true sn sub ab col dd k0 k1 k2 k3 k5 nid) ∧ refsTo tl bm = true := by
  unfold mkB at q
  split at q
  · rename_i t dd cd sl ho
    split at q
    · rename_i C' bm k0 k1 k2 k3 n k5 hm hs
      simp only [Bool.and_eq_true, beq_iff_eq, Bool.not_eq_true', decide_eq_true_eq] at q
      obtain ⟨⟨⟨⟨⟨rfl, rfl⟩, rfl⟩, hdel⟩, hdi⟩, ht⟩ := q
      obtain ⟨nm, bs, mro, ns, qn, hd, sn, sub, ab, col, del⟩ := cd
      dsimp only at hm hdel hdi
      subst hm hdel hdi
      have hsl : sl = #[k0, k1, k2, k3, some (.builtin n), k5] := by
        obtain ⟨l⟩ := sl
        simp only at hs
        rw [hs]
      subst hsl
      exact ⟨nm, qn, ns, bs, bm, sn, sub, ab, col, dd, k0, k1, k2, k3, k5, ho, ht⟩
    · cases q
  · cases q
def eqO := He.eqO
def findB (K : PySem.W.Frag) (c mc : Value) (iid : String) : Bool := match PySem.W.findCls K c mc "__init__" with
  | some (.val (.builtin i)) => decide (i = iid)
  | _ => false
theorem findB_ok {K : PySem.W.Frag} {c mc : Value} {iid : String} (h : findB K c mc iid = true) : PySem.W.findCls K c mc "__init__" = some (.val (.builtin iid)) := by
  unfold findB at h
  split at h
  · rename_i e; rw [e, of_decide_eq_true h]
  · cases h
def baseB (K : PySem.W.Frag) (c : EC) : Bool := match c with
  | .noName => He.eqO (PySem.W.nsIn K mainGlobals "KeyError") (some none) && findB K (.type "KeyError") (.type "type") c.iid
  | _ => He.eqO (PySem.W.nsIn K mainGlobals "DayError") (some (some (.ref (He.ga K "DayError")))) && PySem.W.readsIn K (He.ga K "DayError") (.type "type") && He.eqO (PySem.W.specialIn K (.ref (He.ga K "DayError")) "__getattribute__") (some (some (.builtin "type.__getattribute__"))) &&
    findB K (.ref (He.ga K "DayError")) (.type "type") c.iid
/-- one class -/
def xOne (K : PySem.W.Frag) (x : XE) : Bool :=
  He.eqO (PySem.W.findIn K (.ref (xAt K x.c)) "__getattribute__") (some (some (.builtin "BaseException.__getattribute__"))) && He.eqO (PySem.W.findIn K (.ref (xAt K x.c)) "__getattr__") (some none) && decide (PySem.W.subIn K (.ref (xAt K x.c)) (.type "BaseException") = some true) &&
  PySem.W.hasDictIn K (xAt K x.c) && He.eqO (PySem.W.findIn K (.ref (xAt K x.c)) "__class__") (some (some (.builtin "object.__class__"))) && He.eqO (PySem.W.specialIn K (.builtin "object.__class__") "__get__") (some (some (.builtin "getset_descriptor.__get__"))) &&
  decide (PySem.W.takesIn K (.builtin "object.__class__") = some true) && decide (PySem.W.mroIn K (xAt K x.c) (.type "object") = some true) && (x.c.fs.all fun f => He.eqO (PySem.W.findIn K (.ref (xAt K x.c)) (Str.ofString f)) (some none)) &&
  He.eqO (PySem.W.findIn K (.ref (xAt K x.c)) "__setattr__") (some (some (.builtin "object.__setattr__"))) && decide (PySem.W.typeIn K (.ref (xAt K x.c)) = some (.type "type")) && PySem.W.keepIn K (.ref (xAt K x.c)) && mkB K (xAt K x.c) x.c.nid x.c.tl &&
  He.eqO (PySem.W.findIn K (.ref (xAt K x.c)) "__init__") (some (some (.ref (He.fAd K x.dd.at_)))) && decide (PySem.W.typeIn K (.ref (He.fAd K x.dd.at_)) = some (.type "function")) && PySem.W.handedIn (.builtin x.c.iid) && baseB K x.c
/-- all classes -/
def xsB (K : PySem.W.Frag) (xs : List EC) (xe : List XE) : Bool :=
  (xs.all fun d => if d.blt then He.eqO (PySem.W.nsIn K mainGlobals (Str.ofString d.nm)) (some none) else He.eqO (PySem.W.nsIn K mainGlobals (Str.ofString d.nm)) (some (some (.ref (xAt K d))))) &&
  (xe.all fun x => xOne K x && xs.all fun d => decide (PySem.W.exmOne K (.ref (xAt K x.c)) (xV K d) = some (x.c.sub d)) && decide (PySem.W.kitOne K (.ref (xAt K x.c)) (xV K d) = some (x.c.sub d)))
def scopeB (N ps : List Str) (sc : Scope) : Bool := (match sc.kind with | .function => true | _ => false) && !sc.isCoroutine && !sc.isGenerator && decide N.Nodup && decide (N.take ps.length = ps) &&
  (ps.all fun x => (sc.names.lookup x == some .local) || (sc.names.lookup x == some .cell)) && sc.names.all fun y => match y.2 with | .free => false | _ => true
theorem scopeB_ok {N ps : List Str} {sc : Scope} (h : scopeB N ps sc = true) : FnScope N ps sc := by
  unfold scopeB at h
  simp only [Bool.and_eq_true, Bool.not_eq_true', decide_eq_true_eq, List.all_eq_true, Bool.or_eq_true, beq_iff_eq] at h
  obtain ⟨⟨⟨⟨⟨⟨h1, h2⟩, h3⟩, h4⟩, h5⟩, h6⟩, h7⟩ := h
  refine ⟨?_, h2, h3, h4, h5, h6, fun y hy e => ?_⟩
  · split at h1
    · assumption
    · cases h1
  · have := h7 y hy
    rw [e] at this
    cases this
/-- what the text tells of a class -/
def XE.okB (x : XE) : Bool := scopeB (iPs x.c) (iPs x.c) x.dd.scope && decide (x.dd.scope.names.lookup (Str.ofString x.c.base) = some .globalImplicit) && initB (Str.ofString x.c.base) x.c.fs x.dd.body && x.c.leaf
/-- how its __init__ binds -/
def XE.Bd (x : XE) : Prop := ∀ (kV doc pm : Value) (an : Option Addr) (cdv ct : Value) (us : List Value), us.length = (iPs x.c).length → bindArgs (PySem.W.fnOf x.dd.name x.dd.qual x.dd.params x.dd.body x.dd.scope .none kV doc pm an cdv ct) ⟨us, []⟩ = pure ((iPs x.c).zip us)
theorem xv_of {K : PySem.W.Frag} {P : Program} {w : World} {ca : Str → Addr} {xs : List EC} {d : EC} : clsV ⟨K, P, w, ca, ecOf K xs⟩ d = xV K d := rfl
/-- the classes, from the kernel's reading -/
theorem xcf_of {K : PySem.W.Frag} {P : Program} {w : World} {ca : Str → Addr} {xs : List EC} {xe : List XE} {h : Heap} {mg : Str → Option Value} (X : K.In h) (G : h.Ns mainGlobals mg) (q : xsB K xs xe = true)
    (hf : ∀ x ∈ xe, x.dd.ok K = true ∧ He.fnW K x.dd.at_ = x.dd.val) (ht : xe.all XE.okB = true) (hd : ∀ x ∈ xe, x.dd.dfl = []) (hb : ∀ x ∈ xe, x.Bd) (hx : (xs.all fun c => !c.leaf || xe.any fun x => decide (x.c = c)) = true) : XcF ⟨K, P, w, ca, ecOf K xs⟩ mg xs := by
  unfold xsB at q
  simp only [Bool.and_eq_true, List.all_eq_true] at q
  obtain ⟨q1, q2⟩ := q
  have at_ : ∀ c, (ecOf K xs).ok c = true → ∃ x ∈ xe, x.c = c := fun c ok => by
    have ok : (decide (c ∈ xs) && c.leaf) = true := ok
    simp only [Bool.and_eq_true, decide_eq_true_eq] at ok
    have := List.all_eq_true.mp hx c ok.1
    rw [ok.2, Bool.not_true, Bool.false_or] at this
    obtain ⟨x, h1, h2⟩ := List.any_eq_true.mp this
    exact ⟨x, h1, of_decide_eq_true h2⟩
  refine ⟨fun c ok => ?_, fun d hd hb => ?_, fun d hd hb => ?_, fun d hd hl => ?_, fun c ok d hd => ?_, fun c ok d hd => ?_⟩
  · obtain ⟨x, hxe, rfl⟩ := at_ c ok
    have q3 := (q2 x hxe).1
    unfold xOne at q3
    simp only [Bool.and_eq_true, decide_eq_true_eq, List.all_eq_true] at q3
    obtain ⟨⟨⟨⟨⟨⟨⟨⟨⟨⟨⟨⟨⟨⟨⟨⟨a1, a2⟩, a3⟩, a4⟩, a5⟩, a6⟩, a7⟩, a8⟩, a9⟩, a10⟩, a11⟩, a12⟩, a13⟩, a14⟩, a15⟩, a16⟩, a17⟩ := q3
    have T := List.all_eq_true.mp ht x hxe
    unfold XE.okB at T
    simp only [Bool.and_eq_true, decide_eq_true_eq] at T
    obtain ⟨⟨⟨t1, t2⟩, t3⟩, t4⟩ := T
    obtain ⟨f1, f2⟩ := hf x hxe
    obtain ⟨fd, F⟩ := He.DefD.funD f2 f1
    obtain ⟨oc, od, dV, kV, doc, pm, an, cdv, ct, osl, rfl, e2, e3, e4, e5⟩ := F.ex
    have edv : dV = .none := by
      rcases e4 with ⟨_, e⟩ | ⟨ne, _⟩
      · exact e
      · unfold He.DefD.dvs at ne
        rw [hd x hxe] at ne
        exact absurd rfl ne
    subst edv
    obtain ⟨nm, qn, N, bs, bm, sn, sub, ab, col, dd, k0, k1, k2, k3, k5, m1, m2⟩ := mkB_ok a13
    have eb : EBase x.c.nid x.c.iid bm := by
      cases hc : x.c with
      | noName => rw [hc] at m2; exact ebase_K m2
      | _ => rw [hc] at m2; exact ebase_V m2
    have na : ∀ f ∈ x.c.fs, PySem.W.findIn K (.ref (xAt K x.c)) (Str.ofString f) = some none := fun f hm => He.eqO_ok (a9 f hm)
    refine ⟨⟨He.eqO_ok a1, He.eqO_ok a2, a3, a4, He.eqO_ok a5, He.eqO_ok a6, a7, a8⟩, na, ⟨x.c.iid, Str.ofString x.c.base, He.fAd K x.dd.at_, oc, od, x.dd.name, x.dd.qual, x.dd.params, x.dd.body, x.dd.scope, .none, kV, doc, pm, an, cdv, ct, osl,
      ⟨⟨nm, qn, N, bs, bm, sn, sub, ab, col, dd, k0, k1, k2, k3, k5, _, m1, eb⟩, He.eqO_ok a10, a3, a11, a12⟩, a16, ?_, He.eqO_ok a14, a15, e2, e3, scopeB_ok t1, t2, t3, hb x hxe kV doc pm an cdv ct, na⟩⟩
    have own : ∀ {c : EC}, c.iid = "ValueError.__init__" → c.base = "DayError" → (He.eqO (PySem.W.nsIn K mainGlobals "DayError") (some (some (.ref (He.ga K "DayError")))) && PySem.W.readsIn K (He.ga K "DayError") (.type "type") && He.eqO (PySem.W.specialIn K (.ref (He.ga K "DayError")) "__getattribute__") (some (some (.builtin "type.__getattribute__"))) &&
        findB K (.ref (He.ga K "DayError")) (.type "type") c.iid) = true → BaseAt K mg c.iid (Str.ofString c.base) := fun {c} e1 e2 z => by
      simp only [Bool.and_eq_true] at z
      obtain ⟨⟨⟨z1, z2⟩, z3⟩, z4⟩ := z
      rw [e2]
      exact .own (PySem.W.mg_of X G (He.eqO_ok z1)) (by decide) ⟨z2, He.eqO_ok z3⟩ (findB_ok z4)
    cases hc : x.c with
    | noName =>
      rw [hc] at a17
      have a17 : (He.eqO (PySem.W.nsIn K mainGlobals "KeyError") (some none) && findB K (.type "KeyError") (.type "type") EC.noName.iid) = true := a17
      simp only [Bool.and_eq_true] at a17
      exact BaseAt.blt (T := "KeyError") (PySem.W.mg_none_of X G (He.eqO_ok a17.1)) (by rfl) (by decide) (by decide) (by rfl) (by decide +kernel) (findB_ok a17.2)
    | _ => rw [hc] at a17; exact own rfl rfl a17
  · have := q1 d hd
    rw [hb, if_neg Bool.false_ne_true] at this
    exact PySem.W.mg_of X G (He.eqO_ok this)
  · have := q1 d hd
    rw [hb, if_pos rfl] at this
    exact ⟨PySem.W.mg_none_of X G (He.eqO_ok this), by cases d <;> first | exact Bool.noConfusion hb | rfl⟩
  · show (decide (d ∈ xs) && d.leaf) = true
    rw [hl, decide_eq_true hd]; rfl
  · obtain ⟨x, hxe, rfl⟩ := at_ c ok
    have := (q2 x hxe).2 d hd
    exact of_decide_eq_true this.1
  · obtain ⟨x, hxe, rfl⟩ := at_ c ok
    have := (q2 x hxe).2 d hd
    exact of_decide_eq_true this.2
end Dy
end

section
set_option linter.all false
set_option maxRecDepth 100000
set_option maxHeartbeats 2000000
set_option Elab.async false
/-! Dy, part V: what the kernel reads behind the top. -/
namespace Dy
open PySem PySem.Spec PyProof.Rows L2
/-! ### the module's constants -/
mutual
def tabB (K : PySem.W.Frag) : D → Value → Bool
  | .non, u => (match u with | .none => true | _ => false)
  | .bl b, u => (match u with | .bool c => b == c | _ => false)
  | .int i, u => (match u with | .int j _ => decide (i = j) | _ => false)
  | .str x, u => (match u with | .str y _ => decide (x = y) && sOk x | _ => false)
  | .tup l, u => (match u with
    | .ref a => (match K.lookup a with
      | some ⟨.type c, none, .seq its _, _⟩ => decide (c = "tuple") && decide (its.size ≤ sizeLine) && tabL K l its.toList
      | _ => false)
    | _ => false)
  | .lst _, _ => false
  | .dct _, _ => false
  | .set _, _ => false
  | .ref _, _ => false
  | .exc _ _, _ => false
  | .scr _, _ => false
  | .pr _ _, _ => false
def tabL (K : PySem.W.Frag) : List D → List Value → Bool
  | [], us => us.isEmpty
  | d :: l, us => (match us with
    | u :: us => tabB K d u && tabL K l us
    | [] => false)
end
mutual
theorem tabB_ok {k : Kx} : ∀ (d : D) (u : Value), tabB k.K d u = true → ∃ v, RelV v u ∧ ∀ w, Rep k w d v
  | .non, u, h => by
    cases u <;> first | (exact Bool.noConfusion h) | skip
    exact ⟨.non, rfl, fun w => Rep.non⟩
  | .bl b, u, h => by
    cases u <;> first | (exact Bool.noConfusion h) | skip
    rename_i c
    have e : b = c := by simpa [tabB] using h
    exact ⟨.bl b, by rw [e]; rfl, fun w => Rep.bl _⟩
  | .int i, u, h => by
    cases u <;> first | (exact Bool.noConfusion h) | skip
    rename_i j t
    have e : i = j := by simpa [tabB] using h
    exact ⟨.int i, ⟨t, by rw [e]⟩, fun w => Rep.int _⟩
  | .str x, u, h => by
    cases u <;> first | (exact Bool.noConfusion h) | skip
    rename_i y t
    have e : x = y ∧ sOk x = true := by simpa [tabB] using h
    exact ⟨.str x, ⟨t, by rw [e.1]⟩, fun w => Rep.str e.2⟩
  | .tup l, u, h => by
    cases u <;> first | (exact Bool.noConfusion h) | skip
    rename_i a
    simp only [tabB] at h
    split at h
    · rename_i c its n osl hk
      simp only [Bool.and_eq_true, decide_eq_true_eq] at h
      obtain ⟨⟨h1, h2⟩, h3⟩ := h
      obtain ⟨vs, r1, r2⟩ := tabL_ok l its.toList h3
      refine ⟨.ref a, rfl, fun w => ?_⟩
      simp only [Rep]
      exact ⟨a, vs, rfl, .inr ⟨_, its, n, rfl, hk, by rw [h1], rfl, h2, r1⟩, r2 w⟩
    · cases h
  | .lst _, u, h => by cases h
  | .dct _, u, h => by cases h
  | .set _, u, h => by cases h
  | .ref _, u, h => by cases h
  | .exc _ _, u, h => by cases h
  | .scr _, u, h => by cases h
  | .pr _ _, u, h => by cases h
theorem tabL_ok {k : Kx} : ∀ (l : List D) (us : List Value), tabL k.K l us = true → ∃ vs, Vals vs us ∧ ∀ w, RepL k w l vs
  | [], us, h => by
    simp only [tabL, List.isEmpty_iff] at h
    subst h
    exact ⟨[], .nil, fun w => .nil⟩
  | d :: l, us, h => by
    cases us with
    | nil => simp [tabL] at h
    | cons u us =>
      simp only [tabL, Bool.and_eq_true] at h
      obtain ⟨v, r1, r2⟩ := tabB_ok d u h.1
      obtain ⟨vs, r3, r4⟩ := tabL_ok l us h.2
      exact ⟨v :: vs, .cons r1 r3, fun w => .cons (r2 w) (r4 w)⟩
end
/-- the module's name x is d -/
def gloB (K : PySem.W.Frag) (p : Str × D) : Bool := match PySem.W.nsIn K mainGlobals p.1 with
  | some (some u) => tabB K p.2 u
  | _ => false
/-! ### the hook -/
def obsY (fa : List He.Fa) (ts : List (Str × D)) (xs : List EC) (xe : List XE) (fn : List He.DefD) (K : PySem.W.Frag) : He.AlD := ((fa.all fun f => f.ok K) && (ts.all fun p => gloB K p) && xsB K xs xe && fn.all fun d => d.ok K, fn.map fun d => He.fnW K d.at_)
def SaysY (fa : List He.Fa) (ts : List (Str × D)) (xs : List EC) (xe : List XE) (fn : List He.DefD) (K : PySem.W.Frag) : Prop := obsY fa ts xs xe fn K = He.valD fn
def obsYG (n : Nat) (fa : List He.Fa) (ts : List (Str × D)) (xs : List EC) (xe : List XE) (fn : List He.DefD) (g : Addr → Option Obj) : He.AlD := obsY fa ts xs xe fn (He.frG g (cStatics :: He.asD g n))
def hookY (n : Nat) (fa : List He.Fa) (ts : List (Str × D)) (xs : List EC) (xe : List XE) (fn : List He.DefD) : PySem.W.Hook where
  α := He.AlD
  obs := fun s => obsYG n fa ts xs xe fn s.heap.get?
  val := fun _ => He.valD fn
  says := fun _ h => ∃ K : PySem.W.Frag, K.In h ∧ SaysY fa ts xs xe fn K
  of := fun _ _ e => ⟨_, He.frG_in, e⟩
  keeps := fun _ _ _ ⟨K, x, c⟩ k => ⟨K, PySem.W.Frag.In.keeps x k, c⟩
theorem obsYG_eq {n : Nat} {fa : List He.Fa} {ts : List (Str × D)} {xs : List EC} {xe : List XE} {fn : List He.DefD} {g : Addr → Option Obj} {s : Shared} (h : ∀ a, g a = s.heap.get? a) : obsYG n fa ts xs xe fn g = (hookY n fa ts xs xe fn).obs s := by
  have e : g = s.heap.get? := funext h
  rw [e] <;> rfl
theorem SaysY.parts {fa : List He.Fa} {ts : List (Str × D)} {xs : List EC} {xe : List XE} {fn : List He.DefD} {K : PySem.W.Frag} (c : SaysY fa ts xs xe fn K) : (∀ f ∈ fa, f.ok K = true) ∧ (∀ p ∈ ts, gloB K p = true) ∧ xsB K xs xe = true ∧ ∀ d ∈ fn, d.ok K = true ∧ He.fnW K d.at_ = d.val := by
  have c1 : ((fa.all fun f => f.ok K) && (ts.all fun p => gloB K p) && xsB K xs xe && fn.all fun d => d.ok K) = true := congrArg (fun z : He.AlD => z.1) c
  simp only [Bool.and_eq_true, List.all_eq_true] at c1
  have c2 : fn.map (fun d => He.fnW K d.at_) = fn.map He.DefD.val := congrArg (fun z : He.AlD => z.2) c
  refine ⟨c1.1.1.1, c1.1.1.2, c1.1.2, fun d hd => ⟨c1.2 d hd, ?_⟩⟩
  obtain ⟨i, hi, rfl⟩ := List.getElem_of_mem hd
  have := congrArg (fun l => l[i]?) c2
  simp only [List.getElem?_map, List.getElem?_eq_getElem hi, Option.map_some, Option.some.injEq] at this
  exact this
/-! ### defs -/
/-- a def of the text: the model's datum, ours, its slots, the ways in which it is called -/
structure DE where
  dd : He.DefD
  d : Fn
  N : List Str
  pats : List (Nat × List Str)
def DE.ps (e : DE) : List Str := e.d.ps ++ e.d.ko.map (·.1)
def allPats (es : List DE) : List (Str × Nat × List Str) := es.flatMap fun e => e.pats.map fun p => (e.dd.name, p.1, p.2)
def DE.okB (fs : List (Str × Nat × List Str)) (rz : Bool) (xs : List EC) (e : DE) : Bool := scopeB e.N e.ps e.dd.scope && decide (e.N.length = e.d.ns) && decide (e.dd.at_ = (e.dd.name, none)) && (chkS e.d.body).blk ⟨e.N, e.dd.scope.names, fs, true, rz, xs, false⟩ e.dd.body
def PBs (e : DE) : List (Nat × List Str) → Prop
  | [] => True
  | p :: r => (∀ (k : Kx) (f : Addr) (fd : FuncData), FunD k.K e.dd.name e.dd.qual e.dd.params e.dd.body e.dd.scope (e.dd.dvs k.K) (e.dd.kws k.K) f fd → PBind k.K fd k e.d e.ps p.1 p.2) ∧ PBs e r
theorem PBs.mem {e : DE} : ∀ {l : List (Nat × List Str)}, PBs e l → ∀ p ∈ l, ∀ (k : Kx) (f : Addr) (fd : FuncData), FunD k.K e.dd.name e.dd.qual e.dd.params e.dd.body e.dd.scope (e.dd.dvs k.K) (e.dd.kws k.K) f fd → PBind k.K fd k e.d e.ps p.1 p.2
  | _ :: _, h, p, hp => by
    rcases List.mem_cons.mp hp with rfl | hp
    · exact h.1
    · exact PBs.mem h.2 p hp
def mkT (es : List DE) (ts : List (Str × D)) : Tx := ⟨fun f => (es.find? fun e => e.dd.name == f).map (·.d), fun x => ts.lookup x⟩
theorem lookup_mem' {α β : Type} [BEq α] [LawfulBEq α] {x : α} {y : β} : ∀ {l : List (α × β)}, l.lookup x = some y → (x, y) ∈ l
  | [], h => by simp at h
  | (a, b) :: l, h => by
    simp only [List.lookup_cons] at h
    cases e : x == a with
    | true =>
      rw [e] at h
      cases h
      have : x = a := by simpa using e
      subst this
      exact List.mem_cons_self
    | false =>
      rw [e] at h
      exact List.mem_cons_of_mem _ (lookup_mem' h)
def fnsOf (es : List DE) (xe : List XE) : List He.DefD := es.map (·.dd) ++ xe.map (·.dd)
/-- all together -/
theorem says_ok {fa : List He.Fa} {ts : List (Str × D)} {es : List DE} {rz : Bool} {xs : List EC} {xe : List XE} {P : Program} {w : World} {K : PySem.W.Frag} {ca : Str → Addr} {h : Heap} {mg : Str → Option Value} (X : K.In h) (G : h.Ns mainGlobals mg) (c : SaysY fa ts xs xe (fnsOf es xe) K)
    (hb : es.all (fun e => e.okB (allPats es) rz xs) = true) (hglo : (es.all fun e => fa.any fun f => match f with | .glo x => decide (x = e.dd.name) | _ => false) = true) (hblt : (bltNames.all fun x => fa.any fun f => match f with | .free y => decide (y = x) | _ => false) = true)
    (hnd : (es.map fun e => e.dd.name).Nodup) (hp : ∀ e ∈ es, PBs e e.pats)
    (xt : xe.all XE.okB = true) (xd : ∀ x ∈ xe, x.dd.dfl = []) (xb : ∀ x ∈ xe, x.Bd) (xx : (xs.all fun c => !c.leaf || xe.any fun x => decide (x.c = c)) = true) (base : Heap) : (⟨⟨K, P, w, ca, ecOf K xs⟩, mg, base, mkT es ts, allPats es, rz, xs⟩ : Pg).Ok := by
  obtain ⟨c1, c2, c4, c3⟩ := c.parts
  refine ⟨fun x hx => ?_, fun x d e => ?_, xcf_of X G c4 (fun x hx => c3 x.dd (List.mem_append_right _ (List.mem_map.mpr ⟨x, hx, rfl⟩))) xt xd xb xx, rfl, fun p hpm => ?_⟩
  · have := List.all_eq_true.mp hblt x hx
    obtain ⟨f, hf, q⟩ := List.any_eq_true.mp this
    cases f <;> first | (exact Bool.noConfusion q) | skip
    have q := of_decide_eq_true q
    subst q
    exact He.free_ok X G (c1 _ hf)
  · have hm := lookup_mem' (show ts.lookup x = some d from e)
    have := c2 _ hm
    unfold gloB at this
    split at this
    · rename_i u hu
      obtain ⟨v, r1, r2⟩ := tabB_ok (k := ⟨K, P, w, ca, ecOf K xs⟩) d u this
      exact ⟨v, u, PySem.W.mg_of X G hu, r1, r2⟩
    · cases this
  · obtain ⟨e, he, hpe⟩ := List.mem_flatMap.mp hpm
    obtain ⟨pt, hpt, rfl⟩ := List.mem_map.mp hpe
    refine ⟨e.d, ?_, ?_⟩
    · show (es.find? fun e' => e'.dd.name == e.dd.name).map (·.d) = some e.d
      have : es.find? (fun e' => e'.dd.name == e.dd.name) = some e := by
        clear hb hglo hp c c1 c2 c3 hpm
        induction es with
        | nil => cases he
        | cons a es ih =>
          simp only [List.map_cons, List.nodup_cons] at hnd
          rcases List.mem_cons.mp he with rfl | he'
          · simp
          · have ne : (a.dd.name == e.dd.name) = false := by
              rw [beq_eq_false_iff_ne]
              intro z
              exact hnd.1 (by rw [z]; exact List.mem_map.mpr ⟨e, he', rfl⟩)
            rw [List.find?_cons, ne]
            exact ih hnd.2 he'
      rw [this]; rfl
    · have hd := c3 e.dd (List.mem_append_left _ (List.mem_map.mpr ⟨e, he, rfl⟩))
      have hB := List.all_eq_true.mp hb e he
      unfold DE.okB at hB
      simp only [Bool.and_eq_true, decide_eq_true_eq] at hB
      obtain ⟨⟨⟨b1, b2⟩, b3⟩, b4⟩ := hB
      obtain ⟨fd, F⟩ := He.DefD.funD hd.2 hd.1
      have hg : mg e.dd.name = some (.ref (He.ga K e.dd.name)) := by
        have := List.all_eq_true.mp hglo e he
        obtain ⟨f, hf, q⟩ := List.any_eq_true.mp this
        cases f <;> first | (exact Bool.noConfusion q) | skip
        have q := of_decide_eq_true q
        rw [← q]
        exact He.glo_ok X G (c1 _ hf)
      have ha : He.fAd K e.dd.at_ = He.ga K e.dd.name := by rw [b3]; rfl
      rw [ha] at F
      obtain ⟨oc, od, dV, kV, doc, pm, an, cdv, ct, osl, e1, e2, e3, _, _⟩ := F.ex
      refine ⟨He.ga K e.dd.name, oc, od, e.dd.name, e.dd.qual, e.dd.params, e.dd.body, e.dd.scope, dV, kV, doc, pm, an, cdv, ct, osl, e.N, e.ps, ?_, e3, scopeB_ok b1, b2, hg, F.kp, b4, fun n ks hnk => ?_⟩
      · rw [← e1]; exact e2
      · rw [← e1]
        obtain ⟨e', he', hpe'⟩ := List.mem_flatMap.mp hnk
        obtain ⟨pt', hpt', q⟩ := List.mem_map.mp hpe'
        simp only [Prod.mk.injEq] at q
        obtain ⟨q1, q2, q3⟩ := q
        have : e' = e := by
          obtain ⟨i, hi, rfl⟩ := List.getElem_of_mem he'
          obtain ⟨j, hj, rfl⟩ := List.getElem_of_mem he
          have : i = j := by
            have hn := hnd
            refine (List.getElem_inj (h₀ := by simpa using hi) (h₁ := by simpa using hj) hn).mp ?_
            simpa using q1
          subst this; rfl
        subst this
        have := PBs.mem (hp e' he) pt' hpt' ⟨K, P, w, ca, ecOf K xs⟩ _ fd F
        rw [q2, q3] at this
        exact this
end Dy
end

section
set_option linter.all false
set_option maxRecDepth 100000
set_option maxHeartbeats 2000000
set_option Elab.async false
/-! Dy, part W: how calls bind. -/
namespace Dy
open PySem PySem.Spec PyProof.Rows L2
abbrev FD (e : DE) (k : Kx) (f : Addr) (fd : FuncData) : Prop := FunD k.K e.dd.name e.dd.qual e.dd.params e.dd.body e.dd.scope (e.dd.dvs k.K) (e.dd.kws k.K) f fd
abbrev fnE (e : DE) (dV kV doc pm : Value) (an : Option Addr) (cdv ct : Value) : FuncData := PySem.W.fnOf e.dd.name e.dd.qual e.dd.params e.dd.body e.dd.scope dV kV doc pm an cdv ct
theorem restA_nil (ks : List Str) (ws : List D) : restA ks ws [] = some [] := rfl
theorem bindA_all {d : Fn} {vs : List D} {ks : List Str} {ws as : List D} (hn : vs.length = d.ps.length) (h : bindA d vs ks ws = some as) : as = vs ++ d.ko.map fun p => (find ks ws p.1).getD p.2 := by
  unfold bindA at h
  rw [if_pos (Nat.le_of_eq hn), List.drop_eq_nil_of_le (by omega), restA_nil] at h
  simp at h
  exact h.symm
/-- every parameter is given by place -/
theorem pbind_pos {e : DE} (n : Nat) (hko : e.d.ko = []) (hn : e.d.ps.length = n) (hdf : e.dd.dfl = [])
    (h : ∀ (kV doc pm : Value) (an : Option Addr) (cdv ct : Value) (us : List Value), us.length = n → bindArgs (fnE e .none kV doc pm an cdv ct) ⟨us, []⟩ = pure (e.ps.zip us)) (k : Kx) (f : Addr) (fd : FuncData) (F : FD e k f fd) : PBind k.K fd k e.d e.ps n [] := by
  intro st us ws vs zs X l1 l2 r1 r2
  obtain ⟨oc, od, dV, kV, doc, pm, an, cdv, ct, osl, rfl, lk, hcd, hD, hK⟩ := F.ex
  have eps : e.ps = e.d.ps := by unfold DE.ps; rw [hko]; simp
  rcases hD with ⟨_, rfl⟩ | ⟨ne, _⟩
  · refine ⟨vs, us, ?_, r1, by rw [eps, r1.length]; omega, fun w l m as rl rm eb => ?_⟩
    · have : ([] : List Str).zip ws = [] := rfl
      rw [this]
      exact .of_eq (h kV doc pm an cdv ct us l1)
    · have hl : l.length = e.d.ps.length := by rw [rl.length, r1.length, l1, hn]
      have := bindA_all hl eb
      rw [hko] at this
      simp at this
      subst this
      exact rl
  · unfold He.DefD.dvs at ne
    rw [hdf] at ne
    exact absurd rfl ne
def dvIs : D → He.Dv → Bool
  | .non, .non => true
  | .bl b, .bl c => b == c
  | .int i, .int j => decide (i = j)
  | .str x, .str y => decide (x = y) && sOk x
  | _, _ => false
theorem dvIs_ok {k : Kx} {d : D} {v : He.Dv} (h : dvIs d v = true) (w : Wd) : Rep k w d (He.Dv.v k.K v) := by
  unfold dvIs at h
  split at h
  · exact Rep.non
  · rw [eq_of_beq h]; exact Rep.bl _
  · rw [of_decide_eq_true h]; exact Rep.int _
  · simp only [Bool.and_eq_true, decide_eq_true_eq] at h
    rw [← h.1]; exact Rep.str h.2
  · cases h
def koIs : List (Str × D) → List (Str × He.Dv) → Bool
  | [], [] => true
  | p :: l, q :: m => decide (p.1 = q.1) && dvIs p.2 q.2 && koIs l m
  | _, _ => false
theorem koIs_ok {k : Kx} (w : Wd) : ∀ {l : List (Str × D)} {m : List (Str × He.Dv)}, koIs l m = true → RepL k w (l.map (·.2)) (m.map fun q => He.Dv.v k.K q.2)
  | [], [], _ => .nil
  | [], _ :: _, h => by cases h
  | _ :: _, [], h => by cases h
  | p :: l, q :: m, h => by
    simp only [koIs, Bool.and_eq_true] at h
    exact .cons (dvIs_ok h.1.2 w) (koIs_ok w h.2)
theorem koIs_len : ∀ {l : List (Str × D)} {m : List (Str × He.Dv)}, koIs l m = true → l.length = m.length
  | [], [], _ => rfl
  | [], _ :: _, h => by cases h
  | _ :: _, [], h => by cases h
  | p :: l, q :: m, h => by
    simp only [koIs, Bool.and_eq_true] at h
    simp [koIs_len h.2]
/-- the keyword-only ones all lack -/
theorem pbind_dfl {e : DE} (n : Nat) (hko : koIs e.d.ko e.dd.kwd = true) (hne : e.dd.kwd ≠ []) (hn : e.d.ps.length = n) (hdf : e.dd.dfl = [])
    (h : ∀ (D : Addr) (doc pm : Value) (an : Option Addr) (cdv ct : Value) (us ks : List Value), us.length = n → ks.length = e.dd.kwd.length →
      KwChain D ((e.dd.kwd.map (·.1)).zip ks) (bindArgs (fnE e .none (.ref D) doc pm an cdv ct) ⟨us, []⟩) (e.ps.zip (us ++ ks))) (k : Kx) (f : Addr) (fd : FuncData) (F : FD e k f fd) : PBind k.K fd k e.d e.ps n [] := by
  intro st us ws vs zs X l1 l2 r1 r2
  have edv : e.dd.dvs k.K = [] := by unfold He.DefD.dvs; rw [hdf]; rfl
  have ekw : (e.dd.kws k.K).length = e.dd.kwd.length := by unfold He.DefD.kws; simp
  have eps : e.ps.length = n + e.dd.kwd.length := by unfold DE.ps; simp [hn, koIs_len hko]
  have F' : FunD k.K e.dd.name e.dd.qual e.dd.params e.dd.body e.dd.scope [] (e.dd.kws k.K) f fd := by rw [← edv]; exact F
  obtain ⟨ds, rd, hb⟩ := FunD.binds0 (ps := e.ps) F' n (by
    intro z
    rw [z] at ekw
    exact hne (List.length_eq_zero_iff.mp ekw.symm)) (by rw [eps, ekw]) (fun D doc pm an cdv ct us ks z1 z2 => by
      have := h D doc pm an cdv ct us ks z1 (by rw [z2, ekw])
      have e2 : (e.dd.kws k.K).map (·.1) = e.dd.kwd.map (·.1) := by unfold He.DefD.kws; simp
      rw [e2]; exact this)
  have rd' : (e.dd.kws k.K).map (·.2) = e.dd.kwd.map fun q => He.Dv.v k.K q.2 := by unfold He.DefD.kws; simp
  have ld : ds.length = e.dd.kwd.length := by rw [← rd.length]; simp [ekw]
  refine ⟨vs ++ (e.dd.kwd.map fun q => He.Dv.v k.K q.2), us ++ ds, ?_, r1.append (by rw [← rd']; exact rd), ?_, fun w l m as rl rm eb => ?_⟩
  · have : ([] : List Str).zip ws = [] := rfl
    rw [this]
    exact hb st us X (by rw [List.length_append, l1, ld, eps])
  · rw [List.length_append, r1.length, l1, List.length_map, eps]
  · have hl : l.length = e.d.ps.length := by rw [rl.length, r1.length, l1, hn]
    have := bindA_all hl eb
    subst this
    refine rl.append ?_
    have : (e.d.ko.map fun p => (find [] m p.1).getD p.2) = e.d.ko.map (·.2) := by
      apply List.map_congr_left
      intro p _
      rfl
    rw [this]
    exact koIs_ok w hko
theorem find_zip : ∀ {ks : List Str} {ws : List D}, ks.Nodup → ks.length = ws.length → ks.map (fun x => find ks ws x) = ws.map some
  | [], [], _, _ => rfl
  | [], _ :: _, _, h => by simp at h
  | _ :: _, [], _, h => by simp at h
  | x :: ks, w :: ws, nd, h => by
    have nd := List.nodup_cons.mp nd
    have ih := find_zip nd.2 (by simpa using h)
    have e1 : find (x :: ks) (w :: ws) x = some w := by unfold find; simp
    have e2 : (ks.map fun y => find (x :: ks) (w :: ws) y) = ks.map fun y => find ks ws y := by
      apply List.map_congr_left
      intro y hy
      unfold find
      rw [List.zip_cons_cons, List.lookup_cons]
      have : (y == x) = false := by
        rw [beq_eq_false_iff_ne]
        intro z
        exact nd.1 (z ▸ hy)
      rw [this]
    rw [List.map_cons, List.map_cons, e1, e2, ih]
/-- the keyword-only ones all given, in their order -/
theorem pbind_kw {e : DE} (n : Nat) (ks : List Str) (hks : e.d.ko.map (·.1) = ks) (hnd : ks.Nodup) (hn : e.d.ps.length = n) (hdf : e.dd.dfl = [])
    (h : ∀ (kV doc pm : Value) (an : Option Addr) (cdv ct : Value) (us ws : List Value), us.length = n → ws.length = ks.length → bindArgs (fnE e .none kV doc pm an cdv ct) ⟨us, ks.zip ws⟩ = pure (e.ps.zip (us ++ ws))) (k : Kx) (f : Addr) (fd : FuncData) (F : FD e k f fd) : PBind k.K fd k e.d e.ps n ks := by
  intro st us ws vs zs X l1 l2 r1 r2
  obtain ⟨oc, od, dV, kV, doc, pm, an, cdv, ct, osl, rfl, lk, hcd, hD, hK⟩ := F.ex
  have eps : e.ps = e.d.ps ++ ks := by unfold DE.ps; rw [hks]
  rcases hD with ⟨_, rfl⟩ | ⟨ne, _⟩
  · refine ⟨vs ++ zs, us ++ ws, .of_eq (h kV doc pm an cdv ct us ws l1 l2), r1.append r2, by rw [eps, List.length_append, List.length_append, r1.length, r2.length]; omega, fun w l m as rl rm eb => ?_⟩
    have hl : l.length = e.d.ps.length := by rw [rl.length, r1.length, l1, hn]
    have := bindA_all hl eb
    subst this
    refine rl.append ?_
    have hm : ks.length = m.length := by rw [rm.length, r2.length, l2]
    have e1 := find_zip hnd hm
    rw [← hks, List.map_map] at e1
    have : (e.d.ko.map fun p => (find ks m p.1).getD p.2) = m := by
      rw [hks] at e1
      have e2 : ∀ (l : List (Str × D)) (m' : List D), l.map ((fun x => find ks m x) ∘ (·.1)) = m'.map some → (l.map fun p => (find ks m p.1).getD p.2) = m' := by
        intro l
        induction l with
        | nil =>
          intro m' h
          cases m' with
          | nil => rfl
          | cons _ _ => simp at h
        | cons p l ih =>
          intro m' h
          cases m' with
          | nil => simp at h
          | cons d m' =>
            simp only [List.map_cons, List.cons.injEq, Function.comp] at h
            rw [List.map_cons, h.1, ih m' h.2]
            rfl
      exact e2 _ _ e1
    rw [this]
    exact rm
  · unfold He.DefD.dvs at ne
    rw [hdf] at ne
    exact absurd rfl ne
end Dy
end

section
set_option linter.all false
set_option maxRecDepth 100000
set_option maxHeartbeats 1000000
set_option Elab.async false
/-! Dy, part X: reasoning about the interpreter (no model in sight). -/
namespace Dy
open PySem
/-! ### what simp may look into -/
theorem R.bind_congr {α β : Type} {r r' : R α} {f : α → Hh → R β} (e : r = r') : r.bind f = r'.bind f := by rw [e]
theorem R.go_congr {α : Type} {r r' : R α} {σ : Sl} {g : α → Hh → Fl} (e : r = r') : r.go σ g = r'.go σ g := by rw [e]
theorem Fl.then_congr {f f' : Fl} {g : Sl → Hh → Fl} (e : f = f') : f.then g = f'.then g := by rw [e]
theorem Fl.turn_congr {f f' : Fl} {g : Sl → Hh → Fl} (e : f = f') : f.turn g = f'.turn g := by rw [e]
theorem forL_congr {t : Tg} {b : Sl → Hh → Fl} {l l' : List D} {σ σ' : Sl} {h h' : Hh} (e1 : l = l') (e2 : σ = σ') (e3 : h = h') : forL t b l σ h = forL t b l' σ' h' := by rw [e1, e2, e3]
theorem forS_congr {t : Tg} {b : Sl → Hh → Fl} {l l' : Src} {σ σ' : Sl} {h h' : Hh} (e1 : l = l') (e2 : σ = σ') (e3 : h = h') : forS t b l σ h = forS t b l' σ' h' := by rw [e1, e2, e3]
theorem compS_congr {f : D → Hh → R (List D)} {l l' : Src} {h h' : Hh} (e1 : l = l') (e3 : h = h') : compS f l h = compS f l' h' := by rw [e1, e3]
theorem compL_congr {f : D → Hh → R (List D)} {l l' acc acc' : List D} {h h' : Hh} (e1 : l = l') (e2 : acc = acc') (e3 : h = h') : compL f l acc h = compL f l' acc' h' := by rw [e1, e2, e3]
theorem turn_congr {t : Tg} {σ σ' : Sl} {g : Sl → Hh → R (List D)} {d d' : D} {h h' : Hh} (e1 : σ = σ') (e2 : d = d') (e3 : h = h') : turn t σ g d h = turn t σ' g d' h' := by rw [e1, e2, e3]
theorem iff_congr' {t t' : R D} {g : Hh → R (List D)} (e : t = t') : iff t g = iff t' g := by rw [e]
theorem one_congr {t t' : R D} (e : t = t') : one t = one t' := by rw [e]
theorem pairOf_congr {t t' : R D} {g : Hh → R D} (e : t = t') : pairOf t g = pairOf t' g := by rw [e]
theorem whileN_congr {e : Sl → Hh → R Bool} {b : Sl → Hh → Fl} {n n' : Nat} {σ σ' : Sl} {h h' : Hh} (e1 : n = n') (e2 : σ = σ') (e3 : h = h') : whileN e b n σ h = whileN e b n' σ' h' := by rw [e1, e2, e3]
/-! ### calls -/
/-- the world of code with room for calls d deep -/
def At (T : Tx) (d : Nat) (c : Cl) : Prop := ∃ k, d ≤ k ∧ c = cl T k
theorem At.mono {T : Tx} {d e : Nat} {c : Cl} (h : At T d c) (le : e ≤ d) : At T e c := by
  obtain ⟨k, hk, rfl⟩ := h
  exact ⟨k, Nat.le_trans le hk, rfl⟩
theorem At.gl {T : Tx} {d : Nat} {c : Cl} (h : At T d c) (x : Str) : c.gl x = T.gl x := by
  obtain ⟨k, hk, rfl⟩ := h; rfl
theorem At.open {T : Tx} {d : Nat} {c : Cl} (h : At T (d + 1) c) : ∃ c', At T d c' ∧ ∀ (f : Str) (fd : Fn) (vs : List D) (ks : List Str) (ws : List D) (hp : Hh) (as : List D), T.fn f = some fd → bindA fd vs ks ws = some as →
    c.call f vs ks ws hp = leave hp (exec c' fd.body none (as.map some ++ List.replicate (fd.ns - as.length) none) hp) := by
  obtain ⟨k, hk, rfl⟩ := h
  cases k with
  | zero => omega
  | succ k =>
    refine ⟨cl T k, ⟨k, by omega, rfl⟩, fun f fd vs ks ws hp as e1 e2 => ?_⟩
    show run T (k + 1) f vs ks ws hp = _
    unfold run
    rw [e1]
    dsimp only
    rw [e2]
theorem At.enter {T : Tx} {d : Nat} {c : Cl} (h : At T (d + 1) c) {f : Str} {fd : Fn} {vs : List D} {ks : List Str} {ws as : List D} (e1 : T.fn f = some fd) (e2 : bindA fd vs ks ws = some as) (hp : Hh) : ∃ c', At T d c' ∧
    c.call f vs ks ws hp = leave hp (exec c' fd.body none (as.map some ++ List.replicate (fd.ns - as.length) none) hp) := by
  obtain ⟨c', h1, h2⟩ := h.open
  exact ⟨c', h1, h2 f fd vs ks ws hp as e1 e2⟩
/-! ### a call's end -/
theorem leave_rt0 {h : Hh} {d : D} : leave h (.rt d h) = .ok d h := by
  simp only [leave, List.take_length]
  split <;> rfl
theorem leave_nx0 {h : Hh} {σ : Sl} : leave h (.nx σ h) = .ok .non h := by
  simp only [leave, List.take_length]
  split <;> rfl
theorem leave_ex0 {h : Hh} {σ : Sl} {c : EC} {l : List D} : leave h (.ex c l σ h) = .ex c l h := by
  simp only [leave, List.take_length]
  split <;> rfl
/-- the old part stands, but for the box at b -/
def isBox (h : Hh) (b : Nat) : Prop := ∃ x s z : Int, h[b]? = some (.lst [.int x, .int s, .int z])
/-- what stood still stands; new things may have come -/
def Gr (h h' : Hh) : Prop := h.length ≤ h'.length ∧ ∀ i, i < h.length → h'[i]? = h[i]?
/-- .. but for the box at b -/
def GrB (b : Nat) (h h' : Hh) : Prop := h.length ≤ h'.length ∧ (∀ i, i < h.length → i ≠ b → h'[i]? = h[i]?) ∧ isBox h' b
/-- nothing new has come -/
def Bx (b : Nat) (h h' : Hh) : Prop := h'.length = h.length ∧ (∀ i, i ≠ b → h'[i]? = h[i]?) ∧ isBox h' b
theorem isBox.lt {h : Hh} {b : Nat} (x : isBox h b) : b < h.length := by
  obtain ⟨_, _, _, e⟩ := x
  exact (List.getElem?_eq_some_iff.mp e).1
theorem Gr.refl {h : Hh} : Gr h h := ⟨Nat.le_refl _, fun _ _ => rfl⟩
theorem Gr.trans {a b c : Hh} (x : Gr a b) (y : Gr b c) : Gr a c := ⟨Nat.le_trans x.1 y.1, fun i hi => (y.2 i (Nat.lt_of_lt_of_le hi x.1)).trans (x.2 i hi)⟩
theorem Gr.app {h l : Hh} : Gr h (h ++ l) := ⟨by simp, fun i hi => List.getElem?_append_left hi⟩
theorem Bx.refl {h : Hh} {b : Nat} (x : isBox h b) : Bx b h h := ⟨rfl, fun _ _ => rfl, x⟩
theorem Bx.trans {b : Nat} {h h' h'' : Hh} (x : Bx b h h') (y : Bx b h' h'') : Bx b h h'' := ⟨y.1.trans x.1, fun i hi => (y.2.1 i hi).trans (x.2.1 i hi), y.2.2⟩
theorem Bx.grb {b : Nat} {h h' : Hh} (x : Bx b h h') : GrB b h h' := ⟨Nat.le_of_eq x.1.symm, fun i _ hi => x.2.1 i hi, x.2.2⟩
theorem GrB.refl {h : Hh} {b : Nat} (x : isBox h b) : GrB b h h := (Bx.refl x).grb
theorem GrB.trans {b : Nat} {h h' h'' : Hh} (x : GrB b h h') (y : GrB b h' h'') : GrB b h h'' :=
  ⟨Nat.le_trans x.1 y.1, fun i hi hb => (y.2.1 i (Nat.lt_of_lt_of_le hi x.1) hb).trans (x.2.1 i hi hb), y.2.2⟩
theorem Gr.box {h h' : Hh} {b : Nat} (x : Gr h h') (y : isBox h b) : isBox h' b := by
  obtain ⟨p, q, r, e⟩ := y
  exact ⟨p, q, r, by rw [x.2 b (List.getElem?_eq_some_iff.mp e).1, e]⟩
theorem Gr.grb {b : Nat} {h h' : Hh} (x : Gr h h') (y : isBox h b) : GrB b h h' := ⟨x.1, fun i hi _ => x.2 i hi, x.box y⟩
theorem take_get {h : Hh} {n i : Nat} (hi : i < n) : (h.take n)[i]? = h[i]? := List.getElem?_take_of_lt hi
theorem GrB.take {b : Nat} {h h' : Hh} (hb : b < h.length) (x : GrB b h h') : Bx b h (h'.take h.length) := by
  refine ⟨by rw [List.length_take]; have := x.1; omega, fun i hi => ?_, ?_⟩
  · by_cases hl : i < h.length
    · rw [take_get hl, x.2.1 i hl hi]
    · rw [List.getElem?_eq_none (by rw [List.length_take]; omega), List.getElem?_eq_none (by omega)]
  · obtain ⟨p, q, r, e⟩ := x.2.2
    exact ⟨p, q, r, by rw [take_get hb]; exact e⟩
theorem Gr.take {h h' : Hh} (x : Gr h h') : h'.take h.length = h := by
  refine List.ext_getElem? fun i => ?_
  by_cases hl : i < h.length
  · rw [take_get hl, x.2 i hl]
  · rw [List.getElem?_eq_none (by rw [List.length_take]; omega), List.getElem?_eq_none (by omega)]
theorem GrB.keeps {b : Nat} {h h' : Hh} (x : GrB b h h') : Keeps h h' := ⟨x.1, fun i o hi e => by
  by_cases hb : i = b
  · subst hb
    obtain ⟨p, q, r, e2⟩ := x.2.2
    rw [e] at e2
    cases e2
    exact .inr rfl
  · exact .inl (by rw [← x.2.1 i hi hb]; exact e)⟩
theorem Gr.keeps {h h' : Hh} (x : Gr h h') : Keeps h h' := ⟨x.1, fun i o hi e => .inl (by rw [← x.2 i hi]; exact e)⟩
/-- back from a def that drew from the box -/
theorem leave_rtB {b : Nat} {h h' : Hh} {d : D} (hb : b < h.length) (x : GrB b h h') (bl : d.bel h.length = true) : ∃ h1, leave h (.rt d h') = .ok d h1 ∧ Bx b h h1 := by
  refine ⟨_, ?_, x.take hb⟩
  simp only [leave]
  rw [if_pos ⟨x.keeps, bl⟩]
theorem leave_rt {h h' : Hh} {d : D} (x : Gr h h') (bl : d.bel h.length = true) : leave h (.rt d h') = .ok d h := by
  simp only [leave]
  rw [if_pos ⟨x.keeps, bl⟩, x.take]
theorem leave_nx {h h' : Hh} {σ : Sl} (x : Gr h h') : leave h (.nx σ h') = .ok .non h := by
  simp only [leave]
  rw [if_pos x.keeps, x.take]
/-- a thing that was made here is handed out -/
theorem leave_new {h h' : Hh} {d : D} (nb : d.bel h.length = false) : leave h (.rt d h') = .ok d h' := by
  simp only [leave]
  rw [if_neg (fun z => by rw [nb] at z; exact Bool.noConfusion z.2)]
/-! ### loops -/
/-- a for over items: an invariant by the turn's number -/
theorem forL_nx {t : Tg} {b : Sl → Hh → Fl} (I : Nat → Sl → Hh → Prop) : ∀ (l : List D) (n : Nat) (σ : Sl) (h : Hh), I n σ h →
    (∀ (i : Nat) d σ h, l[i]? = some d → I (n + i) σ h → ∃ σ1 σ2 h2, setT t d σ h = some σ1 ∧ (b σ1 h = .nx σ2 h2 ∨ b σ1 h = .ct σ2 h2) ∧ I (n + i + 1) σ2 h2) → ∃ σ' h', forL t b l σ h = .nx σ' h' ∧ I (n + l.length) σ' h'
  | [], n, σ, h, h0, _ => ⟨σ, h, rfl, h0⟩
  | d :: l, n, σ, h, h0, st => by
    obtain ⟨σ1, σ2, h2, e1, e2, h3⟩ := st 0 d σ h rfl h0
    obtain ⟨σ', h', e3, h4⟩ := forL_nx I l (n + 1) σ2 h2 h3 (fun i d' σ h q r => by
      have := st (i + 1) d' σ h (by simpa using q) (by rw [← Nat.add_assoc, Nat.add_right_comm]; exact r)
      have e : n + (i + 1) + 1 = n + 1 + i + 1 := by omega
      rw [e] at this
      exact this)
    refine ⟨σ', h', ?_, ?_⟩
    · unfold forL
      rw [e1]
      dsimp only
      rcases e2 with e2 | e2 <;> rw [e2]
      · exact e3
      · exact e3
    · rw [List.length_cons, show n + (l.length + 1) = n + 1 + l.length by omega]; exact h4
/-- a comprehension's turns; the heap by an invariant, the items by a relation -/
theorem compL_rel {f : D → Hh → R (List D)} (I : Hh → Prop) (Rl : D → List D → Prop) (m : Nat) : ∀ (l acc : List D) (h : Hh), I h → acc.length + m * l.length ≤ sizeL →
    (∀ d h, d ∈ l → I h → ∃ x h', f d h = .ok x h' ∧ x.length ≤ m ∧ Rl d x ∧ I h') → ∃ (xs : List (List D)) (h' : Hh), compL f l acc h = .ok (acc ++ xs.flatten) h' ∧ I h' ∧ xs.length = l.length ∧ ∀ (i : Nat) d x, l[i]? = some d → xs[i]? = some x → Rl d x
  | [], acc, h, h0, _, _ => ⟨[], h, by simp [compL], h0, rfl, fun i d x e _ => by simp at e⟩
  | d :: l, acc, h, h0, sz, st => by
    obtain ⟨x, h1, e1, e2, e3, e4⟩ := st d h List.mem_cons_self h0
    have hs : acc.length + x.length + m * l.length ≤ sizeL := by
      have : m * (d :: l).length = m * l.length + m := by simp [Nat.mul_add]
      omega
    obtain ⟨xs, h', e5, e6, e7, e8⟩ := compL_rel I Rl m l (acc ++ x) h1 e4 (by rw [List.length_append]; exact hs) (fun d' h hd hi => st d' h (List.mem_cons_of_mem _ hd) hi)
    refine ⟨x :: xs, h', ?_, e6, by simp [e7], fun i d' x' q1 q2 => ?_⟩
    · unfold compL
      rw [e1]
      simp only [R.bind_ok]
      rw [if_pos (by omega), e5]
      simp
    · cases i with
      | zero => simp at q1 q2; subst q1; subst q2; exact e3
      | succ i => exact e8 i d' x' (by simpa using q1) (by simpa using q2)
/-- .. each turn gives one item -/
theorem compL_one {f : D → Hh → R (List D)} (I : Hh → Prop) (Rl : D → D → Prop) (l acc : List D) (h : Hh) (h0 : I h) (sz : acc.length + l.length ≤ sizeL)
    (st : ∀ d h, d ∈ l → I h → ∃ x h', f d h = .ok [x] h' ∧ Rl d x ∧ I h') : ∃ (xs : List D) (h' : Hh), compL f l acc h = .ok (acc ++ xs) h' ∧ I h' ∧ xs.length = l.length ∧ ∀ (i : Nat) d x, l[i]? = some d → xs[i]? = some x → Rl d x := by
  obtain ⟨xs, h', e1, e2, e3, e4⟩ := compL_rel I (fun d x => ∃ y, x = [y] ∧ Rl d y) 1 l acc h h0 (by omega) (fun d h hd hi => by
    obtain ⟨x, h', a, b, c⟩ := st d h hd hi
    exact ⟨[x], h', a, by simp, ⟨x, rfl, b⟩, c⟩)
  have key : ∀ (xs : List (List D)) (l : List D), xs.length = l.length → (∀ (i : Nat) d x, l[i]? = some d → xs[i]? = some x → ∃ y, x = [y] ∧ Rl d y) → xs.flatten.length = l.length ∧ ∀ (i : Nat) d x, l[i]? = some d → xs.flatten[i]? = some x → Rl d x := by
    intro xs
    induction xs with
    | nil =>
      intro l hl _
      cases l with
      | nil => exact ⟨rfl, fun i d x e _ => by simp at e⟩
      | cons _ _ => simp at hl
    | cons x xs ih =>
      intro l hl hr
      cases l with
      | nil => simp at hl
      | cons d l =>
        obtain ⟨y, rfl, r⟩ := hr 0 d x rfl rfl
        obtain ⟨a, b⟩ := ih l (by simpa using hl) (fun i d x q1 q2 => hr (i + 1) d x (by simpa using q1) (by simpa using q2))
        refine ⟨by simp [a], fun i d' x' q1 q2 => ?_⟩
        cases i with
        | zero => simp at q1 q2; subst q1; subst q2; exact r
        | succ i => exact b i d' x' (by simpa using q1) (by simpa using q2)
  obtain ⟨a, b⟩ := key xs l e3 e4
  exact ⟨xs.flatten, h', e1, e2, a, b⟩
/-- .. without drawing: a map -/
theorem compL_map {f : D → Hh → R (List D)} {g : D → List D} {h : Hh} : ∀ (l acc : List D), (acc ++ l.flatMap g).length ≤ sizeL → (∀ d, d ∈ l → f d h = .ok (g d) h) → compL f l acc h = .ok (acc ++ l.flatMap g) h
  | [], acc, _, _ => by simp [compL]
  | d :: l, acc, sz, st => by
    have sz' : (acc ++ g d ++ l.flatMap g).length ≤ sizeL := by simpa [List.append_assoc] using sz
    unfold compL
    rw [st d List.mem_cons_self]
    simp only [R.bind_ok]
    rw [if_pos (by rw [List.length_append] at sz'; simp at sz' ⊢; omega), compL_map l (acc ++ g d) sz' (fun d' hd => st d' (List.mem_cons_of_mem _ hd))]
    simp
theorem rangeL_length (a b : Int) : (rangeL a b).length = (b - a).toNat := by simp [rangeL]
theorem rangeL_mem {a b : Int} {d : D} : d ∈ rangeL a b ↔ ∃ i : Int, d = .int i ∧ a ≤ i ∧ i < b := by
  unfold rangeL
  rw [List.mem_map]
  constructor
  · rintro ⟨k, hk, rfl⟩
    have := List.mem_range.mp hk
    exact ⟨_, rfl, by omega, by omega⟩
  · rintro ⟨i, rfl, h1, h2⟩
    exact ⟨(i - a).toNat, List.mem_range.mpr (by omega), by congr 1; omega⟩
theorem rangeL_get {a b : Int} {i : Nat} {d : D} (h : (rangeL a b)[i]? = some d) : d = .int (a + i) ∧ a + i < b := by
  unfold rangeL at h
  rw [List.getElem?_map] at h
  cases e : (List.range (b - a).toNat)[i]? with
  | none => rw [e] at h; cases h
  | some k =>
    rw [e] at h
    obtain ⟨h1, h2⟩ := List.getElem?_eq_some_iff.mp e
    have : k = i := by simpa using h2.symm
    subst this
    cases h
    have : k < (b - a).toNat := by simpa using h1
    exact ⟨rfl, by omega⟩
/-! ### ends -/
/-- a run that gives a value -/
def Rt {α : Type} (r : R α) (P : α → Hh → Prop) : Prop := ∃ d h, r = .ok d h ∧ P d h
/-- a turn that goes on -/
def Nx (f : Fl) (P : Sl → Hh → Prop) : Prop := ∃ σ h, (f = .nx σ h ∨ f = .ct σ h) ∧ P σ h
theorem Rt.congr {α : Type} {r r' : R α} {P : α → Hh → Prop} (e : r = r') : Rt r P = Rt r' P := by rw [e]
theorem Nx.congr {f f' : Fl} {P : Sl → Hh → Prop} (e : f = f') : Nx f P = Nx f' P := by rw [e]
theorem leave_congr {h : Hh} {f f' : Fl} (e : f = f') : leave h f = leave h f' := by rw [e]
theorem Rt.ok {α : Type} {d : α} {h : Hh} {P : α → Hh → Prop} (p : P d h) : Rt (.ok d h) P := ⟨d, h, rfl, p⟩
theorem Rt.mono {α : Type} {r : R α} {P Q : α → Hh → Prop} (x : Rt r P) (f : ∀ d h, P d h → Q d h) : Rt r Q := by
  obtain ⟨d, h, e, p⟩ := x
  exact ⟨d, h, e, f d h p⟩
theorem Nx.nx {σ : Sl} {h : Hh} {P : Sl → Hh → Prop} (p : P σ h) : Nx (.nx σ h) P := ⟨σ, h, .inl rfl, p⟩
theorem Nx.ct {σ : Sl} {h : Hh} {P : Sl → Hh → Prop} (p : P σ h) : Nx (.ct σ h) P := ⟨σ, h, .inr rfl, p⟩
/-- a for whose turns all go on; the target is a name -/
theorem for_nm {k : Nat} {b : Sl → Hh → Fl} {l : List D} {σ : Sl} {h : Hh} (I : Nat → Sl → Hh → Prop) (h0 : I 0 σ h)
    (st : ∀ (i : Nat) d σ h, l[i]? = some d → I i σ h → Nx (b (σ.set k (some d)) h) (I (i + 1))) : ∃ σ' h', forL (.nm k) b l σ h = .nx σ' h' ∧ I l.length σ' h' := by
  obtain ⟨σ', h', e, x⟩ := forL_nx (t := .nm k) (b := b) I l 0 σ h h0 (fun i d σ h e q => by
    rw [Nat.zero_add] at q ⊢
    obtain ⟨σ2, h2, a, z⟩ := st i d σ h e q
    exact ⟨_, σ2, h2, rfl, a, z⟩)
  rw [Nat.zero_add] at x
  exact ⟨σ', h', e, x⟩
/-- .. any target -/
theorem for_tg {t : Tg} {b : Sl → Hh → Fl} {l : List D} {σ : Sl} {h : Hh} (I : Nat → Sl → Hh → Prop) (h0 : I 0 σ h)
    (st : ∀ (i : Nat) d σ h, l[i]? = some d → I i σ h → ∃ σ1, setT t d σ h = some σ1 ∧ Nx (b σ1 h) (I (i + 1))) : ∃ σ' h', forL t b l σ h = .nx σ' h' ∧ I l.length σ' h' := by
  obtain ⟨σ', h', e, x⟩ := forL_nx (t := t) (b := b) I l 0 σ h h0 (fun i d σ h e q => by
    rw [Nat.zero_add] at q ⊢
    obtain ⟨σ1, e1, σ2, h2, a, z⟩ := st i d σ h e q
    exact ⟨σ1, σ2, h2, e1, a, z⟩)
  rw [Nat.zero_add] at x
  exact ⟨σ', h', e, x⟩
theorem Rt.rtB {b : Nat} {h h' : Hh} {d : D} {P : D → Hh → Prop} (hb : b < h.length) (x : GrB b h h') (bl : d.bel h.length = true) (p : ∀ h1, Bx b h h1 → P d h1) : Rt (leave h (.rt d h')) P := by
  obtain ⟨h1, e, y⟩ := leave_rtB hb x bl
  exact ⟨d, h1, e, p h1 y⟩
theorem Rt.rt {h h' : Hh} {d : D} {P : D → Hh → Prop} (x : Gr h h') (bl : d.bel h.length = true) (p : P d h) : Rt (leave h (.rt d h')) P := ⟨d, h, leave_rt x bl, p⟩
end Dy
end

section
set_option linter.all false
set_option maxRecDepth 100000
set_option maxHeartbeats 1000000
set_option Elab.async false
/-! Dy, part Y: the interpreter, step by step: what follows a step is a constant, so that simp stops there. -/
namespace Dy
open PySem
section
variable {c : Cl} {σ : Sl} {h : Hh}
/-! ### expressions -/
def varM (h : Hh) : Option (Option D) → R D
  | some (some d) => .ok d h
  | _ => .bad
@[simp] theorem varM_some (d : D) : varM h (some (some d)) = .ok d h := rfl
def kCons2 (x y : D) (h : Hh) : R D := .ok (.tup (x :: asTup y)) h
def kCons (c : Cl) (r : Ex) (σ : Sl) (x : D) (h : Hh) : R D := (evalE c r σ h).bind (kCons2 x)
def kBin (c : Cl) (m : Bool) (o : Bo) (b : Ex) (σ : Sl) (x : D) (h : Hh) : R D := (evalE c b σ h).bind (binD m o x)
def kNeg (x : D) (h : Hh) : R D := match x with
  | .int i => .ok (.int (-i)) h
  | _ => .bad
def kBl (k : Bool) (h : Hh) : R D := .ok (.bl k) h
def kCmp2 (o : Co) (x y : D) (h : Hh) : R D := (R.opt (cmpD h o x y) h).bind kBl
def kCmp (c : Cl) (o : Co) (b : Ex) (σ : Sl) (x : D) (h : Hh) : R D := (evalE c b σ h).bind (kCmp2 o x)
def kC23 (c : Cl) (o : Co) (d : Ex) (σ : Sl) (y : D) (k : Bool) (h : Hh) : R D := if k then (evalE c d σ h).bind (kCmp2 o y) else .ok (.bl false) h
def kC22 (c : Cl) (o o' : Co) (d : Ex) (σ : Sl) (x y : D) (h : Hh) : R D := (R.opt (cmpD h o x y) h).bind (kC23 c o' d σ y)
def kC21 (c : Cl) (o o' : Co) (b d : Ex) (σ : Sl) (x : D) (h : Hh) : R D := (evalE c b σ h).bind (kC22 c o o' d σ x)
def kNot2 (k : Bool) (h : Hh) : R D := .ok (.bl (!k)) h
def kNot (x : D) (h : Hh) : R D := (R.opt (truthy h x) h).bind kNot2
def kAnd2 (c : Cl) (b : Ex) (σ : Sl) (x : D) (k : Bool) (h : Hh) : R D := if k then evalE c b σ h else .ok x h
def kAnd (c : Cl) (b : Ex) (σ : Sl) (x : D) (h : Hh) : R D := (R.opt (truthy h x) h).bind (kAnd2 c b σ x)
def kOr2 (c : Cl) (b : Ex) (σ : Sl) (x : D) (k : Bool) (h : Hh) : R D := if k then .ok x h else evalE c b σ h
def kOr (c : Cl) (b : Ex) (σ : Sl) (x : D) (h : Hh) : R D := (R.opt (truthy h x) h).bind (kOr2 c b σ x)
def kIfe2 (c : Cl) (a b : Ex) (σ : Sl) (k : Bool) (h : Hh) : R D := if k then evalE c a σ h else evalE c b σ h
def kIfe (c : Cl) (a b : Ex) (σ : Sl) (x : D) (h : Hh) : R D := (R.opt (truthy h x) h).bind (kIfe2 c a b σ)
def kLst (m : Bool) (x : D) (h : Hh) : R D := mkL m (asTup x) h
def kCall2 (c : Cl) (f : Str) (ks : List Str) (x y : D) (h : Hh) : R D := c.call f (asTup x) ks (asTup y) h
def kCall (c : Cl) (f : Str) (ks : List Str) (kes : Ex) (σ : Sl) (x : D) (h : Hh) : R D := (evalE c kes σ h).bind (kCall2 c f ks x)
def kBlt (m : Bool) (b : Bl) (x : D) (h : Hh) : R D := bltD m b (asTup x) h
def kMet2 (m : Bool) (t : Mt) (a x : D) (h : Hh) : R D := metD m t a (asTup x) h
def kMet (c : Cl) (m : Bool) (t : Mt) (es : Ex) (σ : Sl) (a : D) (h : Hh) : R D := if t.rcv h a then (evalE c es σ h).bind (kMet2 m t a) else .bad
def kIsi (ts : List Ty) (x : D) (h : Hh) : R D := if known h x && ts.all Ty.isB then .ok (.bl (ts.any fun t => t.has h x)) h else .bad
def kSub2 (a x : D) (h : Hh) : R D := R.opt (subD h a x) h
def kSub (c : Cl) (i : Ex) (σ : Sl) (a : D) (h : Hh) : R D := (evalE c i σ h).bind (kSub2 a)
def kSli2 (m : Bool) (a : D) (x y : Option Int) (h : Hh) : R D := sliD m a x y h
def kSli1 (c : Cl) (m : Bool) (hi : Ex) (σ : Sl) (a : D) (x : Option Int) (h : Hh) : R D := (bdR hi.isKn (evalE c hi σ h)).bind (kSli2 m a x)
def kSli (c : Cl) (m : Bool) (lo hi : Ex) (σ : Sl) (a : D) (h : Hh) : R D := (bdR lo.isKn (evalE c lo σ h)).bind (kSli1 c m hi σ a)
def kRev (m : Bool) (a : D) (h : Hh) : R D := revD m a h
def kAttr (f : Str) (a : D) (h : Hh) : R D := R.opt (attrD h a f) h
def kFst2 (l : List Str) (h : Hh) : R D := if joinLen Str.empty l ≤ sizeL then .ok (.str (Str.join Str.empty l)) h else .bad
def kFst (x : D) (h : Hh) : R D := (R.opt (fstL (asTup x)) h).bind kFst2
def kExc (k : EC) (x : D) (h : Hh) : R D := if (asTup x).length = k.fs.length then .ok (.exc k (asTup x)) h else .bad
/-- a comprehension's turn -/
def lcF (c : Cl) (t : Tg) (e cd : Ex) (σ : Sl) : D → Hh → R (List D) := turn t (clr σ t.slots) fun σ h => iff (evalE c cd σ h) fun h => one (evalE c e σ h)
def kLc2 (c : Cl) (m : Bool) (t : Tg) (e cd : Ex) (σ : Sl) (s : Src) (h : Hh) : R D := (compS (lcF c t e cd σ) s h).calm.bind (mkL m)
def kLc (c : Cl) (m : Bool) (t : Tg) (e cd : Ex) (σ : Sl) (s : D) (h : Hh) : R D := (R.opt (srcOf h s) h).bind (kLc2 c m t e cd σ)
def kRng2 (l : List D) (h : Hh) : R D := if l.length ≤ sizeL then .ok (.tup l) h else .bad
def kRng (x : D) (h : Hh) : R D := (R.opt (rngD (asTup x)) h).bind kRng2
def kEnum (x : D) (h : Hh) : R D := match x with
  | .tup l => .ok (.tup (enumL 0 l)) h
  | .lst l => .ok (.tup (enumL 0 l)) h
  | _ => .bad
def kZip (c : Cl) (b : Ex) (σ : Sl) (x : D) (h : Hh) : R D := (evalE c b σ h).bind fun y h => zipD x y h
def kFrz (x : D) (h : Hh) : R D := match x with
  | .ref n => match h[n]? with
    | some (.lst l) => .ok (.lst l) (h.set n .dead)
    | some (.dct l) => .ok (.dct l) (h.set n .dead)
    | _ => .bad
  | x => .ok x h
theorem eE_nil : evalE c .nil σ h = .ok (.tup []) h := by simp only [evalE]
theorem eE_cons (e r : Ex) : evalE c (.cons e r) σ h = (evalE c e σ h).bind (kCons c r σ) := by simp only [evalE]; rfl
theorem eE_var (i : Nat) : evalE c (.var i) σ h = varM h σ[i]? := by
  simp only [evalE]
  cases e : σ[i]? with
  | none => rfl
  | some o => cases o <;> rfl
theorem eE_kn : evalE c .kn σ h = .ok .non h := by simp only [evalE]
theorem eE_kb (b : Bool) : evalE c (.kb b) σ h = .ok (.bl b) h := by simp only [evalE]
theorem eE_ki (i : Int) : evalE c (.ki i) σ h = .ok (.int i) h := by simp only [evalE]
theorem eE_ks (s : Str) : evalE c (.ks s) σ h = .ok (.str s) h := by simp only [evalE]
theorem eE_glo (x : Str) : evalE c (.glo x) σ h = R.opt (c.gl x) h := by simp only [evalE]
theorem eE_bin (m : Bool) (o : Bo) (a b : Ex) : evalE c (.bin m o a b) σ h = (evalE c a σ h).bind (kBin c m o b σ) := by simp only [evalE]; rfl
theorem eE_neg (a : Ex) : evalE c (.neg a) σ h = (evalE c a σ h).bind kNeg := by simp only [evalE]; rfl
theorem eE_cmp (o : Co) (a b : Ex) : evalE c (.cmp o a b) σ h = (evalE c a σ h).bind (kCmp c o b σ) := by simp only [evalE]; rfl
theorem eE_cmp2 (o o' : Co) (a b d : Ex) : evalE c (.cmp2 o o' a b d) σ h = (evalE c a σ h).bind (kC21 c o o' b d σ) := by simp only [evalE]; rfl
theorem eE_not (a : Ex) : evalE c (.not a) σ h = (evalE c a σ h).bind kNot := by simp only [evalE]; rfl
theorem eE_and (a b : Ex) : evalE c (.and a b) σ h = (evalE c a σ h).bind (kAnd c b σ) := by simp only [evalE]; rfl
theorem eE_or (a b : Ex) : evalE c (.or a b) σ h = (evalE c a σ h).bind (kOr c b σ) := by simp only [evalE]; rfl
theorem eE_ife (t a b : Ex) : evalE c (.ife t a b) σ h = (evalE c t σ h).bind (kIfe c a b σ) := by simp only [evalE]; rfl
theorem eE_tup (es : Ex) : evalE c (.tup es) σ h = evalE c es σ h := by simp only [evalE]
theorem eE_lst (m : Bool) (es : Ex) : evalE c (.lst m es) σ h = (evalE c es σ h).bind (kLst m) := by simp only [evalE]; rfl
theorem eE_call (f : Str) (es : Ex) (ks : List Str) (kes : Ex) : evalE c (.call f es ks kes) σ h = (evalE c es σ h).bind (kCall c f ks kes σ) := by simp only [evalE]; rfl
theorem eE_blt (m : Bool) (b : Bl) (es : Ex) : evalE c (.blt m b es) σ h = (evalE c es σ h).bind (kBlt m b) := by simp only [evalE]; rfl
theorem eE_met (m : Bool) (t : Mt) (o es : Ex) : evalE c (.met m t o es) σ h = (evalE c o σ h).bind (kMet c m t es σ) := by simp only [evalE]; rfl
theorem eE_isi (a : Ex) (ts : List Ty) : evalE c (.isi a ts) σ h = (evalE c a σ h).bind (kIsi ts) := by simp only [evalE]; rfl
theorem eE_sub (a b : Ex) : evalE c (.sub a b) σ h = (evalE c a σ h).bind (kSub c b σ) := by simp only [evalE]; rfl
theorem eE_sli (m : Bool) (a lo hi : Ex) : evalE c (.sli m a lo hi) σ h = (evalE c a σ h).bind (kSli c m lo hi σ) := by simp only [evalE]; rfl
theorem eE_rev (m : Bool) (a : Ex) : evalE c (.rev m a) σ h = (evalE c a σ h).bind (kRev m) := by simp only [evalE]; rfl
theorem eE_attr (a : Ex) (f : Str) : evalE c (.attr a f) σ h = (evalE c a σ h).bind (kAttr f) := by simp only [evalE]; rfl
theorem eE_fst (es : Ex) : evalE c (.fst es) σ h = (evalE c es σ h).bind kFst := by simp only [evalE]; rfl
theorem eE_exc (k : EC) (es : Ex) : evalE c (.exc k es) σ h = (evalE c es σ h).bind (kExc k) := by simp only [evalE]; rfl
theorem eE_lc (m : Bool) (e : Ex) (t : Tg) (it cd : Ex) : evalE c (.lc m e t it cd) σ h = (evalE c it σ h).bind (kLc c m t e cd σ) := by simp only [evalE]; rfl
theorem eE_listr (m : Bool) (a : Ex) : evalE c (.listr m a) σ h = (evalE c a σ h).bind (kLst m) := by simp only [evalE]; rfl
theorem eE_rng (es : Ex) : evalE c (.rng es) σ h = (evalE c es σ h).bind kRng := by simp only [evalE]; rfl
theorem eE_enum (a : Ex) : evalE c (.enum a) σ h = (evalE c a σ h).bind kEnum := by simp only [evalE]; rfl
theorem eE_zip (a b : Ex) : evalE c (.zip false a b) σ h = (evalE c a σ h).bind (kZip c b σ) := by simp only [evalE]; rfl
/-! ### the exception in hand -/
def exM : Option Ob → Option (EC × List D)
  | some (.exc c l) => some (c, l)
  | _ => none
@[simp] theorem exM_exc (k : EC) (l : List D) : exM (some (.exc k l)) = some (k, l) := rfl
theorem exOf_ref (n : Nat) : exOf h (some (some (.ref n))) = exM h[n]? := by
  show (match h[n]? with | some (.exc c l) => some (c, l) | _ => none) = exM h[n]?
  cases h[n]? with
  | none => rfl
  | some o => cases o <;> rfl
def kExf (f : Str) (e : EC × List D) (h : Hh) : R D := R.opt (((e.1.fs.map Str.ofString).zip e.2).lookup f) h
def kIse (cs : List EC) (e : EC × List D) (h : Hh) : R D := .ok (.bl (cs.any fun d => e.1.sub d)) h
theorem eE_exf (i : Nat) (f : Str) : evalE c (.exf i f) σ h = (R.opt (exOf h σ[i]?) h).bind (kExf f) := by simp only [evalE]; rfl
theorem eE_ise (i : Nat) (cs : List EC) : evalE c (.ise i cs) σ h = (R.opt (exOf h σ[i]?) h).bind (kIse cs) := by simp only [evalE]; rfl
theorem kIse_1 (k d : EC) (l : List D) : kIse [d] (k, l) h = .ok (.bl (k.sub d)) h := by simp [kIse]
theorem kIse_2 (k d e : EC) (l : List D) : kIse [d, e] (k, l) h = .ok (.bl (k.sub d || k.sub e)) h := by simp [kIse]
theorem kExf_word (a b d : D) : kExf "word" (.noDay, [a, b, d]) h = .ok a h := rfl
theorem kExf_visitor (a b d : D) : kExf "visitor" (.noDay, [a, b, d]) h = .ok b h := rfl
theorem kExf_case (a b d : D) : kExf "case" (.noDay, [a, b, d]) h = .ok d h := rfl
theorem kExf_row (a : D) : kExf "row" (.noText, [a]) h = .ok a h := rfl
theorem kExf_atV (a : D) : kExf "at" (.noView, [a]) h = .ok a h := rfl
theorem kExf_atO (a : D) : kExf "at" (.noOrder, [a]) h = .ok a h := rfl
theorem kExf_atP (a : D) : kExf "at" (.noPair, [a]) h = .ok a h := rfl
theorem kExf_names (a : D) : kExf "names" (.cycle, [a]) h = .ok a h := rfl
theorem kExf_many (a : D) : kExf "many" (.tooMany, [a]) h = .ok a h := rfl
theorem kExf_wordM (a : D) : kExf "word" (.noMatch, [a]) h = .ok a h := rfl
theorem kExf_most (a : D) : kExf "most" (.full, [a]) h = .ok a h := rfl
theorem kExf_atB (a : D) : kExf "at" (.broken, [a]) h = .ok a h := rfl
theorem kExf_name (a : D) : kExf "name" (.noName, [a]) h = .ok a h := rfl
/-! ### what a target takes apart, what list(x) takes -/
theorem seqP_p (a b : D) : seqP h (.pr a b) = some [a, b] := rfl
theorem seqP_t (l : List D) : seqP h (.tup l) = some l := rfl
theorem seqP_l (l : List D) : seqP h (.lst l) = some l := rfl
theorem seqP_r (n : Nat) : seqP h (.ref n) = seqOf h (.ref n) := rfl
theorem lsOf_t (l : List D) : lsOf h (.tup l) = some l := rfl
theorem lsOf_l (l : List D) : lsOf h (.lst l) = some l := rfl
theorem lsOf_d (l : List (D × D)) : lsOf h (.dct l) = if scK l then some (l.map (·.1)) else none := rfl
theorem lsOf_r {n : Nat} {l : List D} (e : h[n]? = some (.lst l)) : lsOf h (.ref n) = some l := by
  have e1 : dctOf h (.ref n) = none := by show (match h[n]? with | some (.dct l) => some l | _ => none) = none; rw [e]
  have e2 : seqOf h (.ref n) = some l := by show (match h[n]? with | some (.lst l) => some l | _ => none) = some l; rw [e]
  unfold lsOf
  rw [e1]
  exact e2
theorem lsOf_seq {a : D} {l : List D} (e : seqOf h a = some l) : lsOf h a = some l := by
  cases a <;> first | (cases e; done) | skip
  · exact e
  · exact e
  · rename_i n
    have e : (match h[n]? with | some (.lst l) => some l | _ => none) = some l := e
    cases e2 : h[n]? with
    | none => rw [e2] at e; cases e
    | some o =>
      rw [e2] at e
      cases o <;> first | (cases e; done) | skip
      cases e
      exact lsOf_r e2
theorem lsOf_rd {n : Nat} {l : List (D × D)} (e : h[n]? = some (.dct l)) : lsOf h (.ref n) = if scK l then some (l.map (·.1)) else none := by
  have e1 : dctOf h (.ref n) = some l := by show (match h[n]? with | some (.dct l) => some l | _ => none) = some l; rw [e]
  unfold lsOf
  rw [e1]
theorem eE_frz (a : Ex) : evalE c (.frz a) σ h = (evalE c a σ h).bind kFrz := by simp only [evalE]; rfl
/-! ### statements -/
def ofS (h : Hh) : Option Sl → Fl
  | none => .bad
  | some σ => .nx σ h
@[simp] theorem ofS_some (σ : Sl) : ofS h (some σ) = .nx σ h := rfl
def kAsg (t : Tg) (σ : Sl) (x : D) (h : Hh) : Fl := ofS h (setT t x σ h)
def kNx {α : Type} (σ : Sl) (_ : α) (h : Hh) : Fl := .nx σ h
def kAS3 (σ : Sl) (x a k : D) (h : Hh) : Fl := (putD a k x h).go σ (kNx σ)
def kAS2 (c : Cl) (i : Ex) (σ : Sl) (x a : D) (h : Hh) : Fl := (evalE c i σ h).go σ (kAS3 σ x a)
def kAS1 (c : Cl) (o i : Ex) (σ : Sl) (x : D) (h : Hh) : Fl := (evalE c o σ h).go σ (kAS2 c i σ x)
def kAug (i : Nat) (o : Bo) (v : Int) (σ : Sl) (x : D) (h : Hh) : Fl := match x, o with
      | .int w, .add => .nx (σ.set i (some (.int (v + w)))) h
      | .int w, .sub => .nx (σ.set i (some (.int (v - w)))) h
      | _, _ => .bad
def augM (c : Cl) (i : Nat) (o : Bo) (e : Ex) (σ : Sl) (h : Hh) : Option (Option D) → Fl
  | some (some (.int v)) => (evalE c e σ h).go σ (kAug i o v σ)
  | _ => .bad
def kTru (x : D) (h : Hh) : R Bool := R.opt (truthy h x) h
def kFor2 (c : Cl) (t : Tg) (b : St) (cur : Option (EC × List D)) (σ : Sl) (s : Src) (h : Hh) : Fl := forS t (exec c b cur) s σ h
def kFor (c : Cl) (t : Tg) (b : St) (cur : Option (EC × List D)) (σ : Sl) (s : D) (h : Hh) : Fl := (R.opt (srcOf h s) h).go σ (kFor2 c t b cur σ)
def kIf (c : Cl) (a b : St) (cur : Option (EC × List D)) (σ : Sl) (k : Bool) (h : Hh) : Fl := if k then exec c a cur σ h else exec c b cur σ h
def kRaise (k : EC) (σ : Sl) (x : D) (h : Hh) : Fl := if (asTup x).length = k.fs.length ∧ k.leaf = true then .ex k (asTup x) σ h else .bad
def frzM2 (i n : Nat) (σ : Sl) (h : Hh) : Option Ob → Fl
  | some (.lst l) => .nx (σ.set i (some (.lst l))) (h.set n .dead)
  | some (.dct l) => .nx (σ.set i (some (.dct l))) (h.set n .dead)
  | _ => .nx σ h
def frzM (i : Nat) (σ : Sl) (h : Hh) : Option (Option D) → Fl
  | some (some (.ref n)) => frzM2 i n σ h h[n]?
  | _ => .nx σ h
variable {cur : Option (EC × List D)}
theorem eT (e : Ex) : evalT c e σ h = (evalE c e σ h).bind kTru := rfl
theorem eS_nil : exec c .nil cur σ h = .nx σ h := by simp only [exec]
theorem eS_cons (s r : St) : exec c (.cons s r) cur σ h = (exec c s cur σ h).then (exec c r cur) := by simp only [exec]
theorem eS_asg (t : Tg) (e : Ex) : exec c (.asg t e) cur σ h = (evalE c e σ h).go σ (kAsg t σ) := by
  simp only [exec]
  congr 1
theorem eS_asgS (o i e : Ex) : exec c (.asgS o i e) cur σ h = (evalE c e σ h).go σ (kAS1 c o i σ) := by simp only [exec]; rfl
def kSS4 (c : Cl) (o' i' : Ex) (σ : Sl) (y : D) (_ : Unit) (h : Hh) : Fl := (evalE c o' σ h).go σ (kAS2 c i' σ y)
def kSS3 (c : Cl) (o' i' : Ex) (σ : Sl) (x y a k : D) (h : Hh) : Fl := (putD a k x h).go σ (kSS4 c o' i' σ y)
def kSS2 (c : Cl) (i o' i' : Ex) (σ : Sl) (x y a : D) (h : Hh) : Fl := (evalE c i σ h).go σ (kSS3 c o' i' σ x y a)
def kSS1 (c : Cl) (o i o' i' : Ex) (σ : Sl) (x y : D) (h : Hh) : Fl := (evalE c o σ h).go σ (kSS2 c i o' i' σ x y)
def kSS0 (c : Cl) (o i o' i' e' : Ex) (σ : Sl) (x : D) (h : Hh) : Fl := (evalE c e' σ h).go σ (kSS1 c o i o' i' σ x)
theorem eS_asgSS (o i o' i' e e' : Ex) : exec c (.asgSS o i o' i' e e') cur σ h = (evalE c e σ h).go σ (kSS0 c o i o' i' e' σ) := by simp only [exec]; rfl
theorem eS_aug (i : Nat) (o : Bo) (e : Ex) : exec c (.aug i o e) cur σ h = augM c i o e σ h σ[i]? := by
  simp only [exec]
  cases e1 : σ[i]? with
  | none => rfl
  | some d => cases d with
    | none => rfl
    | some d => cases d <;> rfl
theorem eS_ex (e : Ex) : exec c (.ex e) cur σ h = (evalE c e σ h).go σ (kNx σ) := by simp only [exec]; rfl
theorem eS_for (t : Tg) (it : Ex) (b : St) : exec c (.for_ t it b) cur σ h = (evalE c it σ h).go σ (kFor c t b cur σ) := by simp only [exec]; rfl
theorem eS_while (e : Ex) (b : St) : exec c (.while_ e b) cur σ h = whileN (evalT c e) (exec c b cur) turns σ h := by simp only [exec]
theorem eS_if (e : Ex) (a b : St) : exec c (.if_ e a b) cur σ h = (evalT c e σ h).go σ (kIf c a b cur σ) := by simp only [exec]; rfl
theorem eS_ret (e : Ex) : exec c (.ret e) cur σ h = (evalE c e σ h).go σ .rt := by simp only [exec]
theorem eS_retN : exec c .retN cur σ h = .rt .non h := by simp only [exec]
theorem eS_raise (n : Bool) (k : EC) (es : Ex) : exec c (.raise n k es) cur σ h = (evalE c es σ h).go σ (kRaise k σ) := by simp only [exec]; rfl
/-- a try's clauses -/
def kTry (c : Cl) (hs : St) : Fl → Fl
  | .ex k l σ h => exec c hs (some (k, l)) σ h
  | f => f
theorem kTry_nx (hs : St) (σ : Sl) (h : Hh) : kTry c hs (.nx σ h) = .nx σ h := rfl
theorem kTry_rt (hs : St) (d : D) (h : Hh) : kTry c hs (.rt d h) = .rt d h := rfl
theorem kTry_bk (hs : St) (σ : Sl) (h : Hh) : kTry c hs (.bk σ h) = .bk σ h := rfl
theorem kTry_ct (hs : St) (σ : Sl) (h : Hh) : kTry c hs (.ct σ h) = .ct σ h := rfl
theorem kTry_ex (hs : St) (k : EC) (l : List D) (σ : Sl) (h : Hh) : kTry c hs (.ex k l σ h) = exec c hs (some (k, l)) σ h := rfl
theorem eS_try (b hs : St) : exec c (.try_ b hs) cur σ h = kTry c hs (exec c b cur σ h) := by
  simp only [exec]
  cases exec c b cur σ h <;> rfl
theorem eS_hnil (k : EC) (l : List D) : exec c .hnil (some (k, l)) σ h = .ex k l σ h := by simp only [exec]
theorem eS_hyes (d : EC) (n : Option Nat) (b r : St) (k : EC) (l : List D) (e : k.sub d = true) : exec c (.hcons [d] n b r) (some (k, l)) σ h = (match n with
      | some i => unas i h.length (exec c b none (σ.set i (some (.ref h.length))) (h ++ [.exc k l]))
      | none => calmF (exec c b none σ h)) := by
  simp only [exec, List.any_cons, e, Bool.true_or, if_true] <;> (cases n <;> rfl)
theorem eS_hyesN (d : EC) (i : Nat) (b r : St) (k : EC) (l : List D) (e : k.sub d = true) : exec c (.hcons [d] (some i) b r) (some (k, l)) σ h = unas i h.length (exec c b none (σ.set i (some (.ref h.length))) (h ++ [.exc k l])) := eS_hyes d _ b r k l e
theorem eS_hyes0 (d : EC) (b r : St) (k : EC) (l : List D) (e : k.sub d = true) : exec c (.hcons [d] none b r) (some (k, l)) σ h = calmF (exec c b none σ h) := eS_hyes d _ b r k l e
theorem eS_hno (d : EC) (n : Option Nat) (b r : St) (k : EC) (l : List D) (e : k.sub d = false) : exec c (.hcons [d] n b r) (some (k, l)) σ h = exec c r (some (k, l)) σ h := by
  simp only [exec, List.any_cons, List.any_nil, e, Bool.or_false, Bool.false_eq_true, if_false]
theorem calmF_nx (σ : Sl) (h : Hh) : calmF (.nx σ h) = .nx σ h := rfl
theorem calmF_rt (d : D) (h : Hh) : calmF (.rt d h) = .rt d h := rfl
theorem calmF_bk (σ : Sl) (h : Hh) : calmF (.bk σ h) = .bk σ h := rfl
theorem calmF_ct (σ : Sl) (h : Hh) : calmF (.ct σ h) = .ct σ h := rfl
theorem unas_nx (i n : Nat) (σ : Sl) (h : Hh) : unas i n (.nx σ h) = .nx (σ.set i none) (h.set n .dead) := rfl
theorem unas_rt (i n : Nat) (d : D) (h : Hh) : unas i n (.rt d h) = .rt d (h.set n .dead) := rfl
theorem unas_bk (i n : Nat) (σ : Sl) (h : Hh) : unas i n (.bk σ h) = .bk (σ.set i none) (h.set n .dead) := rfl
theorem unas_ct (i n : Nat) (σ : Sl) (h : Hh) : unas i n (.ct σ h) = .ct (σ.set i none) (h.set n .dead) := rfl
theorem set_end (h : Hh) (a b : Ob) : (h ++ [a]).set h.length b = h ++ [b] := by simp
theorem get_end (h : Hh) (a : Ob) : (h ++ [a])[h.length]? = some a := by simp
theorem eS_brk : exec c .brk cur σ h = .bk σ h := by simp only [exec]
theorem eS_cnt : exec c .cnt cur σ h = .ct σ h := by simp only [exec]
theorem eS_pass : exec c .pass cur σ h = .nx σ h := by simp only [exec]
theorem eS_frzv (i : Nat) : exec c (.frzv i) cur σ h = frzM i σ h σ[i]? := by
  simp only [exec]
  cases e1 : σ[i]? with
  | none => rfl
  | some d => cases d with
    | none => rfl
    | some d => cases d with
      | ref n =>
        dsimp only [frzM]
        cases e2 : h[n]? with
        | none => rfl
        | some o => cases o <;> rfl
      | _ => rfl
theorem nx_then (g : Sl → Hh → Fl) : (Fl.nx σ h).then g = g σ h := rfl
end
theorem atL_nn {α : Type} {l : List α} {i : Int} (hi : 0 ≤ i) : atL l i = l[i.toNat]? := by
  unfold atL L2.atI L2.ixN
  rw [if_pos hi]
  split
  · rfl
  · rename_i hn
    rw [List.getElem?_eq_none (by omega)]
    rfl
end Dy
end

section
set_option linter.all false
set_option maxRecDepth 100000
set_option maxHeartbeats 1000000
set_option Elab.async false
/-! Dy, part Z: values: ==, repr, sequences. -/
namespace Dy
open PySem
/-! ### equations that do not open an unknown value -/
section
variable {h : Hh}
theorem seqOf_t (l : List D) : seqOf h (.tup l) = some l := rfl
theorem seqOf_l (l : List D) : seqOf h (.lst l) = some l := rfl
def lstM : Option Ob → Option (List D)
  | some (.lst l) => some l
  | _ => none
@[simp] theorem lstM_some (l : List D) : lstM (some (.lst l)) = some l := rfl
theorem seqOf_r (n : Nat) : seqOf h (.ref n) = lstM h[n]? := by
  show (match h[n]? with | some (.lst l) => some l | _ => none) = lstM h[n]?
  cases h[n]? with
  | none => rfl
  | some o => cases o <;> rfl
theorem lstOf_l (l : List D) : lstOf h (.lst l) = some l := rfl
theorem lstOf_r (n : Nat) : lstOf h (.ref n) = lstM h[n]? := by
  show (match h[n]? with | some (.lst l) => some l | _ => none) = lstM h[n]?
  cases h[n]? with
  | none => rfl
  | some o => cases o <;> rfl
theorem truthy_non : truthy h .non = some false := rfl
theorem truthy_bl (b : Bool) : truthy h (.bl b) = some b := rfl
theorem truthy_int (i : Int) : truthy h (.int i) = some (i != 0) := rfl
theorem truthy_str (s : Str) : truthy h (.str s) = some (s.length != 0) := rfl
theorem truthy_tup (l : List D) : truthy h (.tup l) = some (!l.isEmpty) := rfl
theorem truthy_lst (l : List D) : truthy h (.lst l) = some (!l.isEmpty) := rfl
theorem lenD_str (s : Str) : lenD h (.str s) = some s.length := rfl
theorem lenD_tup (l : List D) : lenD h (.tup l) = some l.length := rfl
theorem lenD_lst (l : List D) : lenD h (.lst l) = some l.length := rfl
theorem lenD_scr (l : List Int) : lenD h (.scr l) = some l.length := rfl
def lenM : Option Ob → Option Nat
  | some (.lst l) => some l.length
  | some (.dct l) => if scK l then some l.length else none
  | _ => none
@[simp] theorem lenM_lst (l : List D) : lenM (some (.lst l)) = some l.length := rfl
theorem lenD_ref (n : Nat) : lenD h (.ref n) = lenM h[n]? := by
  show (match h[n]? with | some (.lst l) => some l.length | some (.dct l) => if scK l then some l.length else none | _ => none) = lenM h[n]?
  cases h[n]? with
  | none => rfl
  | some o => cases o <;> rfl
def srcM (n : Nat) : Option Ob → Option Src
  | some (.lst _) => some (.live n)
  | _ => none
@[simp] theorem srcM_lst (n : Nat) (l : List D) : srcM n (some (.lst l)) = some (.live n) := rfl
theorem srcOf_t (l : List D) : srcOf h (.tup l) = some (.its l) := rfl
theorem srcOf_l (l : List D) : srcOf h (.lst l) = some (.its l) := rfl
theorem srcOf_r (n : Nat) : srcOf h (.ref n) = srcM n h[n]? := by
  show (match h[n]? with | some (.lst _) => some (.live n) | _ => none) = srcM n h[n]?
  cases h[n]? with
  | none => rfl
  | some o => cases o <;> rfl
theorem forS_its (t : Tg) (b : Sl → Hh → Fl) (l : List D) (σ : Sl) : forS t b (.its l) σ h = forL t b l σ h := rfl
theorem compS_its (f : D → Hh → R (List D)) (l : List D) : compS f (.its l) h = compL f l [] h := rfl
end
theorem kRng_1 {h : Hh} {j : Int} (h0 : -1000000 ≤ j) (hj : j ≤ 1000000) : kRng (.tup [.int j]) h = .ok (.tup (rangeL 0 j)) h := by
  have e1 : smallI j = true := by simp only [smallI, Bool.and_eq_true, decide_eq_true_eq]; omega
  have e2 : (rangeL 0 j).length ≤ sizeL := by rw [rangeL_length]; unfold sizeL; omega
  show (R.opt (if smallI j then some (rangeL 0 j) else none) h).bind kRng2 = _
  rw [e1, if_pos rfl]
  show (if (rangeL 0 j).length ≤ sizeL then _ else _) = _
  rw [if_pos e2]
theorem kRng_nat {h : Hh} {j : Nat} (hj : (j : Int) ≤ 1000000) : kRng (.tup [.int j]) h = .ok (.tup (rangeL 0 j)) h := kRng_1 (by omega) (by omega)
theorem kRng_2 {h : Hh} {i j : Int} (h0 : -1000000 ≤ i) (h1 : i ≤ 1000000) (h2 : -1000000 ≤ j) (hj : j ≤ 1000000) : kRng (.tup [.int i, .int j]) h = .ok (.tup (rangeL i j)) h := by
  have e1 : smallI j = true := by simp only [smallI, Bool.and_eq_true, decide_eq_true_eq]; omega
  have e3 : smallI i = true := by simp only [smallI, Bool.and_eq_true, decide_eq_true_eq]; omega
  have e2 : (rangeL i j).length ≤ sizeL := by rw [rangeL_length]; unfold sizeL; omega
  show (R.opt (if (smallI i && smallI j) = true then some (rangeL i j) else none) h).bind kRng2 = _
  rw [e1, e3]
  show (if (rangeL i j).length ≤ sizeL then _ else _) = _
  rw [if_pos e2]
theorem atL_nat {α : Type} {l : List α} {k : Nat} : atL l (k : Int) = l[k]? := by rw [atL_nn (by omega)]; rfl
theorem natAbs_10 : Int.natAbs 10 = 10 := rfl
def St.hd : St → St
  | .cons s _ => s
  | s => s
def St.tl : St → St
  | .cons _ r => r
  | s => s
/-! ### == -/
theorem beq_dec {α : Type} [BEq α] [LawfulBEq α] [DecidableEq α] (a b : α) : (a == b) = decide (a = b) := by
  by_cases h : a = b
  · subst h; simp
  · simp [h]
theorem eqv_int (i j : Int) : D.eqv (.int i) (.int j) = decide (i = j) := by
  show PyData.eqv (.int i) (.int j) = _
  simp only [PyData.eqv]
  exact beq_dec _ _
theorem eqv_str (x y : Str) : D.eqv (.str x) (.str y) = decide (x = y) := by
  show PyData.eqv (.str x) (.str y) = _
  simp only [PyData.eqv]
  exact beq_dec _ _
theorem eqv_bl (x y : Bool) : D.eqv (.bl x) (.bl y) = decide (x = y) := by
  show PyData.eqv (.bool x) (.bool y) = _
  simp only [PyData.eqv]
  exact beq_dec _ _
theorem eqD_int {h : Hh} (i j : Int) : eqD h (.int i) (.int j) = some (decide (i = j)) := by
  show (if (D.py (.int i) && D.py (.int j)) = true then some (D.eqv (.int i) (.int j)) else none) = _
  rw [eqv_int]; rfl
theorem eqD_str {h : Hh} (i j : Str) : eqD h (.str i) (.str j) = some (decide (i = j)) := by
  show (if (D.py (.str i) && D.py (.str j)) = true then some (D.eqv (.str i) (.str j)) else none) = _
  rw [eqv_str]; rfl
theorem eqD_bl {h : Hh} (i j : Bool) : eqD h (.bl i) (.bl j) = some (decide (i = j)) := by
  show (if (D.py (.bl i) && D.py (.bl j)) = true then some (D.eqv (.bl i) (.bl j)) else none) = _
  rw [eqv_bl]; rfl
theorem eqD_refNil {h : Hh} {n : Nat} {l : List D} (e : h[n]? = some (.lst l)) (p : D.pyL l = true) : eqD h (.ref n) (.lst []) = some l.isEmpty := by
  have : res h (.ref n) = .lst l := by
    show (match h[n]? with | some (.lst l) => D.lst l | _ => .ref n) = _
    rw [e]
  show (if ((res h (.ref n)).py && D.py (.lst [])) = true then some (D.eqv (res h (.ref n)) (.lst [])) else none) = _
  rw [this]
  have hp : (D.lst l).py = true := p
  rw [hp]
  cases l <;> rfl
mutual
/-- data in which == is = : no truth values -/
def D.nice : D → Bool
  | .non => true
  | .bl _ => false
  | .int _ => true
  | .str _ => true
  | .tup l => D.niceL l
  | .lst l => D.niceL l
  | .dct _ => false
  | .set _ => false
  | .ref _ => false
  | .exc _ _ => false
  | .scr _ => false
  | .pr _ _ => false
def D.niceL : List D → Bool
  | [] => true
  | d :: r => D.nice d && D.niceL r
end
mutual
theorem eqv_nice : ∀ (a b : D), a.nice = true → b.nice = true → (D.eqv a b = true ↔ a = b)
  | .non, b, _, hb => by
    cases b <;> first | (exact Bool.noConfusion hb) | simp [D.eqv, D.toPy, PyData.eqv]
  | .int i, b, _, hb => by
    cases b <;> first | (exact Bool.noConfusion hb) | simp [D.eqv, D.toPy, PyData.eqv]
  | .str s, b, _, hb => by
    cases b <;> first | (exact Bool.noConfusion hb) | simp [D.eqv, D.toPy, PyData.eqv]
  | .tup l, b, ha, hb => by
    cases b <;> first | (exact Bool.noConfusion hb) | skip
    all_goals simp only [D.eqv, D.toPy, PyData.eqv, reduceCtorEq, Bool.false_eq_true, D.tup.injEq]
    rename_i m
    simp only [D.nice] at ha hb
    exact eqvL_nice l m ha hb
  | .lst l, b, ha, hb => by
    cases b <;> first | (exact Bool.noConfusion hb) | skip
    all_goals simp only [D.eqv, D.toPy, PyData.eqv, reduceCtorEq, Bool.false_eq_true, D.lst.injEq]
    rename_i m
    simp only [D.nice] at ha hb
    exact eqvL_nice l m ha hb
  | .bl _, _, h, _ => by cases h
  | .dct _, _, h, _ => by cases h
  | .set _, _, h, _ => by cases h
  | .ref _, _, h, _ => by cases h
  | .exc _ _, _, h, _ => by cases h
  | .scr _, _, h, _ => by cases h
theorem eqvL_nice : ∀ (l m : List D), D.niceL l = true → D.niceL m = true → (PyData.eqvAll (D.toPyL l) (D.toPyL m) = true ↔ l = m)
  | [], [], _, _ => by simp [D.toPyL, PyData.eqvAll]
  | [], _ :: _, _, _ => by simp [D.toPyL, PyData.eqvAll]
  | _ :: _, [], _, _ => by simp [D.toPyL, PyData.eqvAll]
  | a :: l, b :: m, ha, hb => by
    simp only [D.niceL, Bool.and_eq_true] at ha hb
    simp only [D.toPyL, PyData.eqvAll, Bool.and_eq_true, List.cons.injEq]
    exact and_congr (eqv_nice a b ha.1 hb.1) (eqvL_nice l m ha.2 hb.2)
end
mutual
theorem eqv_refl : ∀ (a : D) (n : Nat), a.pl n = true → D.eqv a a = true
  | .non, _, _ => by simp [D.eqv, D.toPy, PyData.eqv]
  | .bl _, _, _ => by simp [D.eqv, D.toPy, PyData.eqv]
  | .int _, _, _ => by simp [D.eqv, D.toPy, PyData.eqv]
  | .str _, _, _ => by simp [D.eqv, D.toPy, PyData.eqv]
  | .tup l, n, h => by
    cases n with
    | zero => simp [D.pl] at h
    | succ n =>
      simp only [D.pl] at h
      simp only [D.eqv, D.toPy, PyData.eqv]
      exact eqvL_refl l n h
  | .lst l, n, h => by
    cases n with
    | zero => simp [D.pl] at h
    | succ n =>
      simp only [D.pl] at h
      simp only [D.eqv, D.toPy, PyData.eqv]
      exact eqvL_refl l n h
  | .dct _, _, h => by simp [D.pl] at h
  | .set _, _, h => by simp [D.pl] at h
  | .ref _, _, h => by simp [D.pl] at h
  | .exc _ _, _, h => by simp [D.pl] at h
  | .scr _, _, h => by simp [D.pl] at h
theorem eqvL_refl : ∀ (l : List D) (n : Nat), D.plL l n = true → PyData.eqvAll (D.toPyL l) (D.toPyL l) = true
  | [], _, _ => by simp [D.toPyL, PyData.eqvAll]
  | a :: l, n, h => by
    simp only [D.plL, Bool.and_eq_true] at h
    simp only [D.toPyL, PyData.eqvAll, Bool.and_eq_true]
    exact ⟨eqv_refl a n h.1, eqvL_refl l n h.2⟩
end
/-! ### repr -/
mutual
/-- may be shown -/
def D.rk : D → Bool
  | .non => true
  | .bl _ => true
  | .int i => decide (i.natAbs < 10 ^ 38)
  | .str s => PyData.strOk s
  | .tup l => D.rkL l
  | .lst l => D.rkL l
  | .dct _ => false
  | .set _ => false
  | .ref _ => false
  | .exc _ _ => false
  | .scr _ => false
  | .pr _ _ => false
def D.rkL : List D → Bool
  | [] => true
  | d :: r => D.rk d && D.rkL r
end
mutual
/-- how long its text may be -/
def D.rsz : D → Nat
  | .non => 4
  | .bl _ => 5
  | .int _ => 40
  | .str s => 10 * s.length + 2
  | .tup l => D.rszL l + 3
  | .lst l => D.rszL l + 3
  | .dct _ => 0
  | .set _ => 0
  | .ref _ => 0
  | .exc _ _ => 0
  | .scr _ => 0
  | .pr _ _ => 0
def D.rszL : List D → Nat
  | [] => 0
  | d :: r => D.rsz d + 2 + D.rszL r
end
def cpOk (s : Str) : Prop := ∀ c ∈ s.cps.toList, c < 1114112
theorem cpOk_app {x y : Str} (hx : cpOk x) (hy : cpOk y) : cpOk (x ++ y) := by
  intro c hc
  have : (x ++ y).cps.toList = x.cps.toList ++ y.cps.toList := by
    show (x.cps ++ y.cps).toList = _
    simp
  rw [this] at hc
  rcases List.mem_append.mp hc with h | h
  · exact hx c h
  · exact hy c h
theorem cpOk_join {x : Str} (hx : cpOk x) : ∀ {l : List Str}, (∀ y ∈ l, cpOk y) → cpOk (Str.join x l)
  | [], _ => by intro c hc; exact absurd hc (by simp [Str.join, Str.empty])
  | [y], h => h y (by simp)
  | y :: z :: r, h => by
    show cpOk (y ++ x ++ Str.join x (z :: r))
    exact cpOk_app (cpOk_app (h y (by simp)) hx) (cpOk_join hx fun q hq => h q (by simp at hq ⊢; exact .inr hq))
theorem cpOk_ascii {s : Str} (h : ∀ c ∈ s.cps.toList, c < 128) : cpOk s := fun c hc => Nat.lt_trans (h c hc) (by decide)
theorem cpOk_hex (w c : Nat) : ∀ x ∈ (List.replicate (w - ((Nat.toDigits 16 c).map Char.toNat).length) 48 ++ (Nat.toDigits 16 c).map Char.toNat), x < 1114112 := by
  intro x hx
  rcases List.mem_append.mp hx with h | h
  · rw [List.eq_of_mem_replicate h]; decide
  · obtain ⟨d, _, rfl⟩ := List.mem_map.mp h
    have := d.valid
    have e : d.toNat = d.val.toNat := rfl
    rw [e]
    rcases this with z | z
    · exact Nat.lt_trans z (by decide)
    · exact z.2
theorem cpOk_reprChar {q c : Nat} (hc : c < 1114112) : ∀ x ∈ Builtin.Str.reprChar q c, x < 1114112 := by
  intro x hx
  unfold Builtin.Str.reprChar at hx
  dsimp only at hx
  split at hx
  · simp at hx; rcases hx with rfl | rfl
    · decide
    · exact hc
  · split at hx
    · simp at hx; rcases hx with rfl | rfl <;> decide
    · split at hx
      · simp at hx; rcases hx with rfl | rfl <;> decide
      · split at hx
        · simp at hx; rcases hx with rfl | rfl <;> decide
        · split at hx
          · simp at hx; rw [hx]; exact hc
          · split at hx
            · rcases List.mem_append.mp hx with h | h
              · simp at h; rcases h with rfl | rfl <;> decide
              · exact cpOk_hex 2 c x h
            · split at hx
              · rcases List.mem_append.mp hx with h | h
                · simp at h; rcases h with rfl | rfl <;> decide
                · exact cpOk_hex 4 c x h
              · rcases List.mem_append.mp hx with h | h
                · simp at h; rcases h with rfl | rfl <;> decide
                · exact cpOk_hex 8 c x h
theorem cpOk_repr {s : Str} (h : cpOk s) : cpOk (reprText s) := by
  have hq : reprQuote s < 1114112 := by unfold reprQuote; split <;> decide
  have key : ∀ (l : List Nat) (acc : Array Nat), (∀ c ∈ l, c < 1114112) → (∀ c ∈ acc.toList, c < 1114112) → ∀ c ∈ (l.foldl (fun out c => out ++ (Builtin.Str.reprChar (reprQuote s) c).toArray) acc).toList, c < 1114112 := by
    intro l
    induction l with
    | nil => intro acc _ h; exact h
    | cons a l ih =>
      intro acc h1 h2
      simp only [List.foldl_cons]
      refine ih _ (fun c hc => h1 c (List.mem_cons_of_mem _ hc)) fun c hc => ?_
      simp only [Array.toList_append, List.mem_append] at hc
      rcases hc with hc | hc
      · exact h2 c hc
      · exact cpOk_reprChar (h1 a List.mem_cons_self) c hc
  intro c hc
  unfold reprText at hc
  simp only [Array.toList_push, List.mem_append, List.mem_singleton] at hc
  rcases hc with hc | rfl
  · rw [← Array.foldl_toList] at hc
    exact key s.cps.toList #[reprQuote s] h (by simp [hq]) c hc
  · exact hq
theorem cpOk_ofStr (s : String) (h : ∀ c ∈ s.toList, c.toNat < 1114112) : cpOk (Str.ofString s) := by
  intro c hc
  have e : (Str.ofString s).cps.toList = s.toList.map Char.toNat := by simp only [Str.ofString_eq_toList, List.toList_toArray]
  rw [e] at hc
  obtain ⟨d, hd, rfl⟩ := List.mem_map.mp hc
  exact h d hd
theorem strOk_cp {s : Str} (h : PyData.strOk s = true) : cpOk s := strOk_iff.mp h
mutual
theorem shown_fits : ∀ (d : D), d.rk = true → PyData.showable d.toPy = true ∧ cpOk (PyData.shown d.toPy) ∧ (PyData.shown d.toPy).length ≤ d.rsz
  | .non, _ => ⟨rfl, cpOk_ofStr "None" (by decide), by decide⟩
  | .bl b, _ => by
    refine ⟨rfl, ?_, ?_⟩
    · cases b
      · exact cpOk_ofStr "False" (by decide)
      · exact cpOk_ofStr "True" (by decide)
    · cases b <;> decide
  | .int i, h => by
    simp only [D.rk, decide_eq_true_eq] at h
    have hz : i.natAbs.log2 < 1920 := by
      by_cases h0 : i.natAbs = 0
      · rw [h0]; decide
      · have : 2 ^ i.natAbs.log2 ≤ i.natAbs := Nat.log2_self_le h0
        apply Classical.byContradiction
        intro hc
        have h2 : 2 ^ 1920 ≤ 2 ^ i.natAbs.log2 := Nat.pow_le_pow_right (by decide) (by omega)
        have h3 : 10 ^ 38 < 2 ^ 1920 := by decide +kernel
        omega
    refine ⟨by simp only [D.toPy, PyData.showable, decide_eq_true_eq]; exact hz, ?_, ?_⟩
    · have := (sOk_iff.mp (intText_ok i hz)).1
      exact this
    · have e := int_text_length_le10 (a := i) (k := 38) (by decide) h
      show (Str.ofString (toString i)).length ≤ 40
      rw [ofString_length]; omega
  | .str s, h => by
    simp only [D.rk] at h
    have hc := strOk_cp h
    refine ⟨rfl, cpOk_repr hc, ?_⟩
    exact StrLaws.reprText_len s fun c hc' => Nat.lt_trans (hc c hc') (by decide)
  | .tup l, h => by
    simp only [D.rk] at h
    obtain ⟨h1, h2, h3⟩ := shownL_fits l h
    refine ⟨by simp only [D.toPy, PyData.showable]; exact h1, ?_, ?_⟩
    · simp only [D.toPy, PyData.shown, tupleText]
      refine cpOk_app (cpOk_app (cpOk_ofStr "(" (by decide)) (cpOk_join (cpOk_ofStr ", " (by decide)) h2)) ?_
      split
      · exact cpOk_ofStr ",)" (by decide)
      · exact cpOk_ofStr ")" (by decide)
    · simp only [D.toPy, PyData.shown, D.rsz]
      have := tupleText_len_le (PyData.shownAll (D.toPyL l))
      omega
  | .lst l, h => by
    simp only [D.rk] at h
    obtain ⟨h1, h2, h3⟩ := shownL_fits l h
    refine ⟨by simp only [D.toPy, PyData.showable]; exact h1, ?_, ?_⟩
    · have := PyData.shown_list (D.toPyL l)
      simp only [D.toPy]
      rw [this]
      exact cpOk_app (cpOk_app (cpOk_ofStr "[" (by decide)) (cpOk_join (cpOk_ofStr ", " (by decide)) h2)) (cpOk_ofStr "]" (by decide))
    · simp only [D.toPy, PyData.shown, D.rsz]
      have := listText_len_le (PyData.shownAll (D.toPyL l))
      omega
  | .dct _, h => by simp [D.rk] at h
  | .set _, h => by simp [D.rk] at h
  | .ref _, h => by simp [D.rk] at h
  | .exc _ _, h => by simp [D.rk] at h
  | .scr _, h => by simp [D.rk] at h
  | .pr _ _, h => by simp [D.rk] at h
theorem shownL_fits : ∀ (l : List D), D.rkL l = true → PyData.showableAll (D.toPyL l) = true ∧ (∀ y ∈ PyData.shownAll (D.toPyL l), cpOk y) ∧ ((PyData.shownAll (D.toPyL l)).map (·.length)).sum + 2 * (PyData.shownAll (D.toPyL l)).length ≤ D.rszL l
  | [], _ => ⟨rfl, fun y hy => by simp [D.toPyL, PyData.shownAll] at hy, by simp [D.toPyL, PyData.shownAll, D.rszL]⟩
  | d :: l, h => by
    simp only [D.rkL, Bool.and_eq_true] at h
    obtain ⟨a1, a2, a3⟩ := shown_fits d h.1
    obtain ⟨b1, b2, b3⟩ := shownL_fits l h.2
    refine ⟨by simp only [D.toPyL, PyData.showableAll, Bool.and_eq_true]; exact ⟨a1, b1⟩, fun y hy => ?_, ?_⟩
    · simp only [D.toPyL, PyData.shownAll, List.mem_cons] at hy
      rcases hy with rfl | hy
      · exact a2
      · exact b2 y hy
    · simp only [D.toPyL, PyData.shownAll, D.rszL, List.map_cons, List.sum_cons, List.length_cons]
      omega
end
/-- repr(d) -/
def D.rp (d : D) : Str := PyData.shown d.toPy
theorem repr_ok {m : Bool} {d : D} {h : Hh} (hp : d.py = true) (hk : d.rk = true) (hz : d.rsz ≤ sizeL) : bltD m .repr [d] h = .ok (.str d.rp) h := by
  obtain ⟨h1, h2, h3⟩ := shown_fits d hk
  have h4 : sOk (PyData.shown d.toPy) = true := sOk_iff.mpr ⟨h2, Nat.le_trans (by simpa [Str.length] using h3) hz⟩
  simp only [bltD, hp, h1, h4, Bool.and_self, if_true, D.rp]
end Dy
end

section
set_option linter.all false
set_option maxRecDepth 100000
set_option maxHeartbeats 1000000
set_option Elab.async false
/-! Dy, part Z2: comprehensions that draw. -/
namespace Dy
open PySem
variable {c : Cl}
theorem lc_gen {α : Type} (f : α → D) (P : Nat → α → Prop) (I : Hh → Prop) {g : D → Hh → R (List D)} : ∀ (l : List D) (n : Nat) (acc : List D) (h : Hh), acc.length + l.length ≤ sizeL → I h →
    (∀ (i : Nat) d h, l[i]? = some d → I h → Rt (g d h) fun x h' => ∃ a, x = [f a] ∧ P (n + i) a ∧ I h') →
    ∃ (as : List α) (h' : Hh), compL g l acc h = .ok (acc ++ as.map f) h' ∧ I h' ∧ as.length = l.length ∧ ∀ (i : Nat) a, as[i]? = some a → P (n + i) a
  | [], n, acc, h, _, h0, _ => ⟨[], h, by simp [compL], h0, rfl, fun i a e => by simp at e⟩
  | d :: l, n, acc, h, sz, h0, st => by
    obtain ⟨_, h1, e1, a, rfl, p, h2⟩ := st 0 d h rfl h0
    rw [List.length_cons] at sz
    obtain ⟨as, h', e3, h4, e5, q⟩ := lc_gen f P I l (n + 1) (acc ++ [f a]) h1 (by rw [List.length_append, List.length_singleton]; omega) h2 (fun i d h e q => by
      have := st (i + 1) d h (by simpa using e) q
      rw [show n + (i + 1) = n + 1 + i by omega] at this
      exact this)
    refine ⟨a :: as, h', ?_, h4, by simp [e5], fun i a' e => ?_⟩
    · unfold compL
      rw [e1]
      simp only [R.bind_ok]
      rw [if_pos (by rw [List.length_singleton]; omega), e3]
      simp
    · cases i with
      | zero => simp at e; subst e; exact p
      | succ i => rw [show n + (i + 1) = n + 1 + i by omega]; exact q i a' (by simpa using e)
/-- a comprehension over a row, its target a name, with no condition -/
theorem lc_nm {α : Type} {k : Nat} {e : Ex} {σ : Sl} {l : List D} {h : Hh} (f : α → D) (P : Nat → α → Prop) (I : Hh → Prop) (sz : l.length ≤ sizeL) (h0 : I h)
    (st : ∀ (i : Nat) d h, l[i]? = some d → I h → Rt (evalE c e ((clr σ [k]).set k (some d)) h) fun x h' => ∃ a, x = f a ∧ P i a ∧ I h') :
    ∃ (as : List α) (h' : Hh), compL (lcF c (.nm k) e (.kb true) σ) l [] h = .ok (as.map f) h' ∧ I h' ∧ as.length = l.length ∧ ∀ (i : Nat) a, as[i]? = some a → P i a := by
  obtain ⟨as, h', e1, i1, i2, i3⟩ := lc_gen f P I l 0 [] h (by simpa using sz) h0 (g := lcF c (.nm k) e (.kb true) σ) (fun i d h e q => by
    obtain ⟨_, h', e2, a, rfl, p, q⟩ := st i d h e q
    refine ⟨[f a], h', ?_, a, rfl, by rw [Nat.zero_add]; exact p, q⟩
    show iff (evalE c (.kb true) ((clr σ [k]).set k (some d)) h) (fun h => one (evalE c _ ((clr σ [k]).set k (some d)) h)) = _
    rw [eE_kb]
    show one (evalE c _ ((clr σ [k]).set k (some d)) h) = _
    rw [e2]
    rfl)
  exact ⟨as, h', by simpa using e1, i1, i2, fun i a e => by have := i3 i a e; rw [Nat.zero_add] at this; exact this⟩
end Dy
end

section
set_option linter.all false
set_option maxRecDepth 100000
set_option maxHeartbeats 1000000
set_option Elab.async false
/-! Dy, part Z3: sorted pairs; rows of numbers. -/
namespace Dy
open PySem
abbrev nD (k : Nat) : D := .int k
def prD (p : Nat × Nat) : D := .tup [.int p.1, .int p.2]
def ltP (a b : Nat × Nat) : Bool := decide (a.1 < b.1) || (decide (a.1 = b.1) && decide (a.2 < b.2))
theorem ltB_pr (a b : Nat × Nat) : ltB (prD a) (prD b) = ltP a b := by
  obtain ⟨a, x⟩ := a
  obtain ⟨b, y⟩ := b
  simp only [ltB, prD, ltD, ltL, ltP, eqv_int]
  by_cases h : a = b
  · subst h
    by_cases k : x = y
    · subst k; simp
    · have : ¬ (x : Int) = y := by omega
      simp [this, k]
  · have : ¬ (a : Int) = b := by omega
    simp [this, h]
def insP (x : Nat × Nat) : List (Nat × Nat) → List (Nat × Nat)
  | [] => [x]
  | y :: r => if ltP y x then y :: insP x r else x :: y :: r
def sortP : List (Nat × Nat) → List (Nat × Nat)
  | [] => []
  | x :: r => insP x (sortP r)
theorem insD_pr (x : Nat × Nat) : ∀ l : List (Nat × Nat), insD (prD x) (l.map prD) = (insP x l).map prD
  | [] => rfl
  | y :: r => by
    simp only [List.map_cons, insD, insP, ltB_pr]
    split
    · rw [List.map_cons, insD_pr x r]
    · rfl
theorem isort_pr : ∀ l : List (Nat × Nat), isort (l.map prD) = (sortP l).map prD
  | [] => rfl
  | x :: r => by simp only [List.map_cons, isort, sortP, isort_pr r, insD_pr]
theorem sortD_pr (l : List (Nat × Nat)) : sortD (l.map prD) = some ((sortP l).map prD) := by
  unfold sortD
  rw [if_pos (by rw [List.all_map]; exact List.all_eq_true.mpr fun _ _ => rfl), isort_pr]
theorem insP_perm (x : Nat × Nat) : ∀ l : List (Nat × Nat), (insP x l).Perm (x :: l)
  | [] => List.Perm.refl _
  | y :: r => by
    simp only [insP]
    split
    · exact ((insP_perm x r).cons y).trans (List.Perm.swap x y r)
    · exact List.Perm.refl _
theorem sortP_perm : ∀ l : List (Nat × Nat), (sortP l).Perm l
  | [] => List.Perm.refl _
  | x :: r => (insP_perm x _).trans ((sortP_perm r).cons x)
theorem insP_lt (x : Nat × Nat) : ∀ l : List (Nat × Nat), l.Pairwise (fun a b => a.1 < b.1) → (∀ y ∈ l, y.1 ≠ x.1) → (insP x l).Pairwise fun a b => a.1 < b.1
  | [], _, _ => by simp [insP]
  | y :: r, s, n => by
    have s' := List.pairwise_cons.mp s
    have ny := n y List.mem_cons_self
    simp only [insP]
    by_cases g : ltP y x = true
    · rw [if_pos g]
      simp only [ltP, Bool.or_eq_true, Bool.and_eq_true, decide_eq_true_eq] at g
      refine List.pairwise_cons.mpr ⟨fun z hz => ?_, insP_lt x r s'.2 fun z hz => n z (List.mem_cons_of_mem _ hz)⟩
      rcases List.mem_cons.mp ((insP_perm x r).subset hz) with rfl | hz
      · omega
      · exact s'.1 z hz
    · rw [if_neg g]
      simp only [ltP, Bool.or_eq_true, Bool.and_eq_true, decide_eq_true_eq] at g
      refine List.pairwise_cons.mpr ⟨fun z hz => ?_, s⟩
      rcases List.mem_cons.mp hz with rfl | hz
      · omega
      · have := s'.1 z hz; omega
theorem sortP_lt : ∀ l : List (Nat × Nat), (l.map Prod.fst).Nodup → (sortP l).Pairwise fun a b => a.1 < b.1
  | [], _ => List.Pairwise.nil
  | x :: r, nd => by
    have nd' := List.nodup_cons.mp (show (x.1 :: r.map Prod.fst).Nodup from nd)
    refine insP_lt x _ (sortP_lt r nd'.2) fun y hy e => nd'.1 ?_
    rw [List.mem_map]
    exact ⟨y, (sortP_perm r).subset hy, e⟩
theorem calm_ok {α : Type} {a : α} {h : Hh} : R.calm (.ok a h) = .ok a h := rfl
/-! ### rows of numbers -/
theorem natGe (m : Nat) : ((-18446744073709551616 : Int) < (m : Int)) = True := by simp only [eq_iff_iff, iff_true]; omega
theorem natBe (m : Nat) : ((m : Int) < 0) = False := by simp only [eq_iff_iff, iff_false]; omega
theorem plL_map {α : Type} {f : α → D} {n : Nat} (hf : ∀ a, (f a).pl n = true) (l : List α) : D.plL (l.map f) n = true := by
  induction l with
  | nil => rfl
  | cons x l ih => simp [D.plL, hf, ih]
theorem pyL_map {α : Type} {f : α → D} (hf : ∀ a, (f a).pl 59 = true) (l : List α) : D.pyL (l.map f) = true := plL_map hf l
theorem rangeL_nat (n : Nat) : rangeL 0 n = (List.range n).map nD := by
  unfold rangeL
  simp [nD]
theorem bel_nD {n : Nat} (l : List Nat) : D.belL n (l.map nD) = true := by
  induction l with
  | nil => rfl
  | cons x l ih => simp [D.belL, D.bel, ih]
theorem map_erase {α β : Type} (f : α → β) (l : List α) (i : Nat) : (l.map f).eraseIdx i = (l.eraseIdx i).map f := by
  induction l generalizing i with
  | nil => rfl
  | cons x l ih => cases i with
    | zero => rfl
    | succ i => simp [ih]
theorem belL_map {α : Type} {n : Nat} {f : α → D} (hf : ∀ a, (f a).bel n = true) (l : List α) : D.belL n (l.map f) = true := by
  induction l with
  | nil => rfl
  | cons x l ih => simp [D.belL, hf, ih]
end Dy
end

section
set_option linter.all false
set_option maxRecDepth 100000
set_option maxHeartbeats 1000000
set_option Elab.async false
/-! Dy, part Z4: slices, texts. -/
namespace Dy
open PySem
theorem cutL_to {α : Type} {l : List α} {j : Int} (hj : 0 ≤ j) : cutL l none (some j) = l.take j.toNat := by
  obtain ⟨k, rfl⟩ := Int.eq_ofNat_of_zero_le hj
  unfold cutL
  rw [HT.sIx_nat, HT.sIx_none, Int.toNat_natCast, List.drop_zero, Nat.sub_zero]
  by_cases h : k ≤ l.length
  · rw [Nat.min_eq_left h]
  · rw [Nat.min_eq_right (by omega), List.take_length, List.take_of_length_le (by omega)]
theorem cutL_from {α : Type} {l : List α} {j : Int} (hj : 0 ≤ j) : cutL l (some j) none = l.drop j.toNat := by
  obtain ⟨k, rfl⟩ := Int.eq_ofNat_of_zero_le hj
  unfold cutL
  rw [HT.sIx_nat, HT.sIx_none, Int.toNat_natCast]
  by_cases h : k ≤ l.length
  · rw [Nat.min_eq_left h, List.take_of_length_le (by rw [List.length_drop]; omega)]
  · rw [Nat.min_eq_right (by omega), List.drop_length, List.take_nil, List.drop_of_length_le (by omega)]
theorem cutL_ab {α : Type} {l : List α} {i j : Int} (hi : 0 ≤ i) (hj : 0 ≤ j) : cutL l (some i) (some j) = (l.drop i.toNat).take (j.toNat - i.toNat) := by
  obtain ⟨k, rfl⟩ := Int.eq_ofNat_of_zero_le hi
  obtain ⟨m, rfl⟩ := Int.eq_ofNat_of_zero_le hj
  unfold cutL
  rw [HT.sIx_nat, HT.sIx_nat, Int.toNat_natCast, Int.toNat_natCast]
  by_cases h : k ≤ l.length
  · rw [Nat.min_eq_left h]
    by_cases h2 : m ≤ l.length
    · rw [Nat.min_eq_left h2]
    · rw [Nat.min_eq_right (show l.length ≤ m by omega), List.take_of_length_le (by rw [List.length_drop]; omega), List.take_of_length_le (by rw [List.length_drop]; omega)]
  · rw [Nat.min_eq_right (show l.length ≤ k by omega), List.drop_length, List.take_nil, List.drop_of_length_le (by omega), List.take_nil]
theorem cutL_all {α : Type} {l : List α} : cutL l none none = l := by
  unfold cutL
  rw [HT.sIx_none, HT.sIx_none, List.drop_zero, Nat.sub_zero, List.take_length]
theorem strsOf_map {α : Type} {f : α → Str} : ∀ l : List α, strsOf (l.map fun a => .str (f a)) = some (l.map f)
  | [] => rfl
  | a :: l => by simp only [List.map_cons, strsOf, strsOf_map l, Option.map_some]
theorem str_add (x y : Str) : (x ++ y).cps.toList = x.cps.toList ++ y.cps.toList := by
  show (x.cps ++ y.cps).toList = _
  simp
theorem str_len (x : Str) : x.length = x.cps.toList.length := by
  show x.cps.size = _
  simp
theorem str_ext {x y : Str} (e : x.cps.toList = y.cps.toList) : x = y := by
  obtain ⟨⟨x⟩⟩ := x
  obtain ⟨⟨y⟩⟩ := y
  exact congrArg _ (congrArg _ e)
theorem empty_cps : (Str.ofString "").cps.toList = [] := by decide +kernel
theorem join_empty_cps : ∀ l : List Str, (Str.join (Str.ofString "") l).cps.toList = (l.map fun s => s.cps.toList).flatten
  | [] => rfl
  | [x] => by simp [Str.join]
  | x :: y :: l => by
    show ((x ++ Str.ofString "" ++ Str.join (Str.ofString "") (y :: l)).cps.toList) = _
    rw [str_add, str_add, join_empty_cps (y :: l), empty_cps]
    simp
/-- the text of one letter -/
def ltr (k : Nat) : Str := ⟨#[97 + k]⟩
def abc : Str := Str.ofString "abcdefghijklmnopqrstuvwxyz"
theorem abc_get {k : Nat} (h : k < 26) : abc.cps.toList[k]? = some (97 + k) := by
  have : ∀ k, k < 26 → abc.cps.toList[k]? = some (97 + k) := by decide +kernel
  exact this k h
theorem abc_at {k : Nat} (h : k < 26) : (atL abc.cps.toList (k : Int)).map (fun c => D.str ⟨#[c]⟩) = some (.str (ltr k)) := by
  rw [atL_nat, abc_get h]; rfl
theorem ltr_cps (k : Nat) : (ltr k).cps.toList = [97 + k] := rfl
theorem rangeL_get0 {b : Int} {i : Nat} {d : D} (h : (rangeL 0 b)[i]? = some d) : d = .int i ∧ (i : Int) < b := by
  obtain ⟨a, e⟩ := rangeL_get h
  rw [Int.zero_add] at a e
  exact ⟨a, e⟩
theorem repS_nat {x : Str} {h : Hh} {k : Nat} (hk : k ≤ 1000) (hx : x.length ≤ 1000) : binD false .mul (.str x) (.int k) h = .ok (.str ⟨(List.replicate k x.cps.toList).flatten.toArray⟩) h := by
  show (if 0 ≤ (k : Int) ∧ (k : Int) ≤ 1000 ∧ x.length ≤ 1000 then _ else _) = _
  rw [if_pos ⟨by omega, by omega, hx⟩]
  rfl
theorem idx_eq {α : Type} {as : List α} {n : Nat} {g : Nat → α} (hl : as.length = n) (p : ∀ (i : Nat) a, as[i]? = some a → a = g i) : as = (List.range n).map g := by
  refine List.ext_getElem (by simp [hl]) fun i h1 h2 => ?_
  rw [List.getElem_map, List.getElem_range]
  exact p i _ (List.getElem?_eq_getElem h1)
theorem nodup_range {α : Type} {n : Nat} {g : Nat → α} (inj : ∀ i j, i < j → j < n → g i ≠ g j) : ((List.range n).map g).Nodup := by
  refine List.pairwise_iff_getElem.mpr fun i j hi hj ij => ?_
  rw [List.getElem_map, List.getElem_map, List.getElem_range, List.getElem_range]
  exact inj i j ij (by simpa using hj)
theorem joinLen_le {m : Nat} : ∀ l : List Str, (∀ s ∈ l, s.length ≤ m) → joinLen (Str.ofString "") l ≤ m * l.length
  | [], _ => by simp [joinLen]
  | x :: l, h => by
    have := joinLen_le l fun s hs => h s (List.mem_cons_of_mem _ hs)
    have hx := h x List.mem_cons_self
    have e0 : (Str.ofString "").length = 0 := by decide +kernel
    simp only [joinLen, List.map_cons, List.sum_cons, e0, Nat.add_zero, List.length_cons, Nat.mul_add, Nat.mul_one] at this ⊢
    omega
end Dy
end

section
set_option linter.all false
set_option maxRecDepth 100000
set_option maxHeartbeats 1000000
set_option Elab.async false
/-! Dy, part Z5: comprehensions that compute. -/
namespace Dy
open PySem
variable {c : Cl}
theorem natC2 : ((2 : Nat) : Int) = 2 := rfl
theorem natC3 : ((3 : Nat) : Int) = 3 := rfl
theorem natC4 : ((4 : Nat) : Int) = 4 := rfl
theorem natC5 : ((5 : Nat) : Int) = 5 := rfl
theorem natC6 : ((6 : Nat) : Int) = 6 := rfl
theorem natC7 : ((7 : Nat) : Int) = 7 := rfl
theorem natC8 : ((8 : Nat) : Int) = 8 := rfl
theorem natC9 : ((9 : Nat) : Int) = 9 := rfl
theorem enumL_at : ∀ (l : List D) (k i : Nat), (enumL k l)[i]? = (l[i]?).map fun d => .pr (.int (k + i : Nat)) d
  | [], _, _ => by simp [enumL]
  | d :: l, k, 0 => by simp [enumL]
  | d :: l, k, i + 1 => by
    simp only [enumL, List.getElem?_cons_succ, enumL_at l (k + 1) i]
    rw [show k + 1 + i = k + (i + 1) by omega]
theorem inD_tup {h : Hh} {x : D} {l : List D} : inD h x (.tup l) = if (x.py && D.pyL l) = true then some (hasD x l) else none := rfl
theorem inD_lst {h : Hh} {x : D} {l : List D} : inD h x (.lst l) = if (x.py && D.pyL l) = true then some (hasD x l) else none := rfl
theorem lc_filter {α : Type} {t : Tg} {e cd : Ex} {σ : Sl} {h : Hh} (f g : α → D) (p : α → Bool) (as : List α) (sz : as.length ≤ sizeL)
    (st : ∀ a ∈ as, ∃ σ1, setT t (f a) (clr σ t.slots) h = some σ1 ∧ evalE c cd σ1 h = .ok (.bl (p a)) h ∧ (p a = true → evalE c e σ1 h = .ok (g a) h)) :
    compL (lcF c t e cd σ) (as.map f) [] h = .ok ((as.filter p).map g) h := by
  have key : ∀ (as : List α) (acc : List D), acc.length + as.length ≤ sizeL → (∀ a ∈ as, ∃ σ1, setT t (f a) (clr σ t.slots) h = some σ1 ∧ evalE c cd σ1 h = .ok (.bl (p a)) h ∧ (p a = true → evalE c e σ1 h = .ok (g a) h)) →
      compL (lcF c t e cd σ) (as.map f) acc h = .ok (acc ++ (as.filter p).map g) h := by
    intro as
    induction as with
    | nil => intro acc _ _; simp [compL]
    | cons a as ih =>
      intro acc sz st
      obtain ⟨σ1, e1, e2, e3⟩ := st a List.mem_cons_self
      have tail := fun a' (ha : a' ∈ as) => st a' (List.mem_cons_of_mem _ ha)
      rw [List.length_cons] at sz
      have et : ∀ x, iff (evalE c cd σ1 h) (fun h => one (evalE c e σ1 h)) = x → lcF c t e cd σ (f a) h = x := by
        intro x hx
        show (match setT t (f a) (clr σ t.slots) h with | none => R.bad | some σ => _) = x
        rw [e1]
        exact hx
      rw [List.map_cons]
      unfold compL
      by_cases hp : p a = true
      · rw [et (.ok [g a] h) (by rw [e2, hp]; show one (evalE c e σ1 h) = _; rw [e3 hp]; rfl)]
        simp only [R.bind_ok]
        rw [if_pos (by rw [List.length_singleton]; omega), ih _ (by rw [List.length_append, List.length_singleton]; omega) tail, List.filter_cons_of_pos hp]
        simp
      · have hp : p a = false := by simpa using hp
        rw [et (.ok [] h) (by rw [e2, hp]; rfl)]
        simp only [R.bind_ok]
        rw [if_pos (by rw [List.length_nil]; omega), ih _ (by rw [List.length_append, List.length_nil]; omega) tail, List.filter_cons_of_neg (by simp [hp])]
        simp
  simpa using key as [] (by simpa using sz) st
theorem lc_map {α : Type} {t : Tg} {e : Ex} {σ : Sl} {h : Hh} (f g : α → D) (as : List α) (sz : as.length ≤ sizeL)
    (st : ∀ a ∈ as, ∃ σ1, setT t (f a) (clr σ t.slots) h = some σ1 ∧ evalE c e σ1 h = .ok (g a) h) :
    compL (lcF c t e (.kb true) σ) (as.map f) [] h = .ok (as.map g) h := by
  have := lc_filter (c := c) (t := t) (e := e) (cd := .kb true) (σ := σ) (h := h) f g (fun _ => true) as sz (fun a ha => by
    obtain ⟨σ1, e1, e2⟩ := st a ha
    exact ⟨σ1, e1, by rw [eE_kb], fun _ => e2⟩)
  rw [this, List.filter_eq_self.mpr (fun _ _ => rfl)]
theorem repr_if {d : D} (hp : d.py = true) (hk : d.rk = true) (hz : d.rsz ≤ sizeL) : (d.py && PyData.showable d.toPy && sOk (PyData.shown d.toPy)) = true := by
  obtain ⟨h1, h2, h3⟩ := shown_fits d hk
  have h4 : sOk (PyData.shown d.toPy) = true := sOk_iff.mpr ⟨h2, Nat.le_trans (by simpa [Str.length] using h3) hz⟩
  rw [hp, h1, h4]
  rfl
theorem rkL_nD : ∀ (l : List Nat), (∀ x ∈ l, x < 1000000) → D.rkL (l.map nD) = true
  | [], _ => rfl
  | x :: l, h => by
    have hx := h x List.mem_cons_self
    simp only [List.map_cons, D.rkL, D.rk, Bool.and_eq_true, decide_eq_true_eq]
    exact ⟨by show x < _; omega, rkL_nD l fun y hy => h y (List.mem_cons_of_mem _ hy)⟩
theorem rszL_nD : ∀ (l : List Nat), D.rszL (l.map nD) = 42 * l.length
  | [] => rfl
  | x :: l => by simp only [List.map_cons, D.rszL, D.rsz, rszL_nD l, List.length_cons]; omega
theorem repr_row {l : List Nat} (h : ∀ x ∈ l, x < 1000000) (hl : l.length ≤ 1000) : ((D.tup (l.map nD)).py && PyData.showable (D.tup (l.map nD)).toPy && sOk (PyData.shown (D.tup (l.map nD)).toPy)) = true :=
  repr_if (pyL_map (fun _ => rfl) l) (rkL_nD l h) (by simp only [D.rsz, rszL_nD]; show _ ≤ 16777216; omega)
end Dy
end

section
set_option linter.all false
set_option Elab.async false
/-! our trees of shared defs, printed by mklib.py -/
namespace Dy
open PySem
/-! _law_box -/
def f__law_box : Fn := ⟨["_law_script", "_law_k"], [], 4,
 (.cons (.asg (.nm 2) (.bin false .add (.bin false .mul (.ki 7919) (.var 1)) (.ki 31)))
 (.cons (.if_ (.cmp .lt (.var 1) (.blt false .len (.cons (.var 0) .nil))) (.cons (.asg (.nm 2) (.blt false .abs (.cons (.sub (.var 0) (.var 1)) .nil)))
 .nil) (.cons (.if_ (.cmp .gt (.blt false .len (.cons (.var 0) .nil)) (.ki 0)) (.cons (.asg (.nm 2) (.bin false .add (.var 2) (.bin false .mul (.bin false .mod (.blt false .abs (.cons (.sub (.var 0) (.bin false .mod (.var 1) (.blt false .len (.cons (.var 0) .nil)))) .nil)) (.ki 2147483629)) (.ki 69623))))
 .nil) .nil)
 .nil))
 (.cons (.asg (.nm 3) (.bin false .add (.bin false .mod (.bin false .add (.bin false .mul (.bin false .mod (.var 2) (.ki 2147483629)) (.ki 48271)) (.bin false .mul (.ki 40692) (.var 1))) (.ki 2147483629)) (.ki 1)))
 (.cons (.ret (.lst true (.cons (.sub (.lst false (.cons (.ki 0) (.cons (.var 2) .nil))) (.blt false .int (.cons (.cmp .ge (.var 2) (.bin false .pow (.ki 10) (.ki 18))) .nil))) (.cons (.var 3) (.cons (.ki 0) .nil)))))
 .nil))))⟩
/-! _law_take -/
def f__law_take : Fn := ⟨["_law_box_here", "_law_many"], [], 4,
 (.cons (.if_ (.cmp .gt (.sub (.var 0) (.ki 0)) (.ki 0)) (.cons (.asg (.nm 2) (.bin false .mod (.sub (.var 0) (.ki 0)) (.var 1)))
 (.cons (.asgS (.var 0) (.ki 0) (.bin false .fdiv (.sub (.var 0) (.ki 0)) (.var 1)))
 (.cons (.ret (.var 2))
 .nil))) .nil)
 (.cons (.asgS (.var 0) (.ki 2) (.bin false .add (.sub (.var 0) (.ki 2)) (.ki 1)))
 (.cons (.asg (.nm 3) (.bin false .mod (.bin false .mul (.bin false .add (.sub (.var 0) (.ki 1)) (.bin false .mul (.ki 104729) (.sub (.var 0) (.ki 2)))) (.ki 69623)) (.ki 2147483647)))
 (.cons (.asgS (.var 0) (.ki 1) (.bin false .add (.bin false .mod (.bin false .add (.bin false .mul (.var 3) (.ki 48271)) (.ki 30103)) (.ki 2147483629)) (.ki 1)))
 (.cons (.ret (.bin false .mod (.bin false .fdiv (.bin false .add (.bin false .mul (.var 3) (.ki 2147483647)) (.sub (.var 0) (.ki 1))) (.ki 8191)) (.var 1)))
 .nil)))))⟩
/-! _law_mixed -/
def b1__law_mixed : St := (.cons (.ex (.met false .append (.var 3) (.cons (.met false .pop1 (.var 2) (.cons (.call "_law_take" (.cons (.var 0) (.cons (.blt false .len (.cons (.var 2) .nil)) .nil)) [] .nil) .nil)) .nil)))
 .nil)
def f__law_mixed : Fn := ⟨["_law_box_here", "_law_items"], [], 5,
 (.cons (.asg (.tp (.cons (.nm 2) (.cons (.nm 3) .nil))) (.tup (.cons (.blt true .list (.cons (.var 1) .nil)) (.cons (.lst true .nil) .nil))))
 (.cons (.for_ (.nm 4) (.rng (.cons (.blt false .len (.cons (.var 2) .nil)) .nil)) b1__law_mixed)
 (.cons (.frzv 2)
 (.cons (.frzv 3)
 (.cons (.ret (.var 3))
 .nil)))))⟩
/-! _law_names -/
def x1__law_names : Ex := (.sub (.var 2) (.call "_law_take" (.cons (.var 0) (.cons (.ki 26) .nil)) [] .nil))
def x2__law_names : Ex := (.sli false (.bin false .add (.sli false (.var 7) .kn (.ki 1)) (.ks "qvkzjx")) .kn (.bin false .add (.var 8) (.ki 1)))
def x3__law_names : Ex := (.bin false .add (.var 7) (.sub (.var 2) (.bin false .mod (.bin false .add (.var 5) (.bin false .mul (.ki 7) (.var 8))) (.ki 26))))
def b1__law_names : St := (.cons (.asg (.nm 11) (.sub (.var 2) (.bin false .mod (.bin false .add (.var 5) (.bin false .mul (.ki 7) (.var 8))) (.ki 26))))
 (.cons (.ex (.met false .append (.var 10) (.cons (.bin false .add (.bin false .add (.bin false .add (.sli false (.var 7) .kn (.var 9)) (.var 11)) (.sli false (.var 7) (.var 9) .kn)) (.bin false .mul (.var 11) (.bin false .mod (.var 8) (.ki 2)))) .nil)))
 .nil))
def f__law_names : Fn := ⟨["_law_box_here", "_law_many"], [], 12,
 (.cons (.asg (.tp (.cons (.nm 2) (.cons (.nm 3) .nil))) (.tup (.cons (.ks "abcdefghijklmnopqrstuvwxyz") (.cons (.call "_law_take" (.cons (.var 0) (.cons (.ki 6) .nil)) [] .nil) .nil))))
 (.cons (.if_ (.cmp .eq (.var 3) (.ki 0)) (.cons (.asg (.nm 4) (.ks "day tell undo hinges order before ask things case swap next none never sure mya may a ab bc c"))
 (.cons (.asg (.nm 5) (.call "_law_take" (.cons (.var 0) (.cons (.ki 20) .nil)) [] .nil))
 (.cons (.ret (.call "_law_mixed" (.cons (.var 0) (.cons (.sli false (.bin false .mul (.met false .split (.var 4) (.cons (.ks " ") .nil)) (.ki 2)) (.var 5) (.bin false .add (.var 5) (.var 1))) .nil)) [] .nil))
 .nil))) .nil)
 (.cons (.asg (.nm 7) (.met false .join (.ks "") (.cons (.lc false x1__law_names (.nm 6) (.rng (.cons (.call "_law_take" (.cons (.var 0) (.cons (.ki 5) .nil)) [] .nil) .nil)) (.kb true)) .nil)))
 (.cons (.if_ (.cmp .eq (.var 3) (.ki 1)) (.cons (.ret (.call "_law_mixed" (.cons (.var 0) (.cons (.lc false x2__law_names (.nm 8) (.rng (.cons (.blt false .min (.cons (.var 1) (.cons (.ki 6) .nil))) .nil)) (.kb true)) .nil)) [] .nil))
 .nil) .nil)
 (.cons (.asg (.tp (.cons (.nm 9) (.cons (.nm 5) .nil))) (.tup (.cons (.call "_law_take" (.cons (.var 0) (.cons (.bin false .add (.blt false .len (.cons (.var 7) .nil)) (.ki 1)) .nil)) [] .nil) (.cons (.call "_law_take" (.cons (.var 0) (.cons (.ki 26) .nil)) [] .nil) .nil))))
 (.cons (.if_ (.or (.cmp .eq (.var 3) (.ki 2)) (.cmp .eq (.var 3) (.ki 3))) (.cons (.asg (.nm 7) (.sli false (.bin false .add (.var 7) (.ks "mnopq")) .kn (.bin false .mul (.ki 5) (.bin false .sub (.var 3) (.ki 2)))))
 (.cons (.ret (.call "_law_mixed" (.cons (.var 0) (.cons (.lc false x3__law_names (.nm 8) (.rng (.cons (.var 1) .nil)) (.kb true)) .nil)) [] .nil))
 .nil)) .nil)
 (.cons (.asg (.nm 10) (.lst true .nil))
 (.cons (.for_ (.nm 8) (.rng (.cons (.var 1) .nil)) b1__law_names)
 (.cons (.frzv 10)
 (.cons (.ret (.call "_law_mixed" (.cons (.var 0) (.cons (.var 10) .nil)) [] .nil))
 .nil))))))))))⟩
/-! _law_action -/
def f__law_action : Fn := ⟨["_law_box_here", "_law_things", "_law_places"], [], 5,
 (.cons (.asg (.tp (.cons (.nm 3) (.cons (.nm 4) .nil))) (.tup (.cons (.call "_law_take" (.cons (.var 0) (.cons (.var 2) .nil)) [] .nil) (.cons (.call "_law_take" (.cons (.var 0) (.cons (.ki 4) .nil)) [] .nil) .nil))))
 (.cons (.if_ (.and (.cmp .eq (.var 4) (.ki 0)) (.cmp .gt (.var 2) (.ki 1))) (.cons (.ret (.tup (.cons (.ks "swap") (.cons (.var 3) (.cons (.bin false .mod (.bin false .add (.bin false .add (.var 3) (.ki 1)) (.call "_law_take" (.cons (.var 0) (.cons (.bin false .sub (.var 2) (.ki 1)) .nil)) [] .nil)) (.var 2)) .nil)))))
 .nil) .nil)
 (.cons (.if_ (.cmp .eq (.var 4) (.ki 1)) (.cons (.ret (.tup (.cons (.ks "next") (.cons (.var 3) .nil))))
 .nil) .nil)
 (.cons (.ret (.tup (.cons (.ks "put") (.cons (.var 3) (.cons (.call "_law_take" (.cons (.var 0) (.cons (.var 1) .nil)) [] .nil) .nil)))))
 .nil))))⟩
/-! _law_case -/
def b1__law_case : St := (.cons (.if_ (.cmp .ne (.var 4) (.lst false .nil)) (.cons (.ex (.met false .append (.var 5) (.cons (.tup (.cons (.met false .pop1 (.var 4) (.cons (.call "_law_take" (.cons (.var 0) (.cons (.blt false .len (.cons (.var 4) .nil)) .nil)) [] .nil) .nil)) (.cons (.call "_law_take" (.cons (.var 0) (.cons (.var 1) .nil)) [] .nil) .nil))) .nil)))
 .nil) .nil)
 .nil)
def x1__law_case : Ex := (.call "_law_action" (.cons (.var 0) (.cons (.var 1) (.cons (.var 2) .nil))) [] .nil)
def f__law_case : Fn := ⟨["_law_box_here", "_law_things", "_law_places"], [], 9,
 (.cons (.asg (.nm 3) (.sub (.lst false (.cons (.ki 1) (.cons (.ki 3) .nil))) (.blt false .int (.cons (.cmp .eq (.call "_law_take" (.cons (.var 0) (.cons (.ki 12) .nil)) [] .nil) (.ki 0)) .nil))))
 (.cons (.asg (.tp (.cons (.nm 4) (.cons (.nm 5) .nil))) (.tup (.cons (.listr true (.rng (.cons (.var 2) .nil))) (.cons (.lst true .nil) .nil))))
 (.cons (.for_ (.nm 6) (.rng (.cons (.bin false .mul (.sub (.lst false (.cons (.ki 0) (.cons (.ki 1) (.cons (.ki 1) (.cons (.ki 2) .nil))))) (.call "_law_take" (.cons (.var 0) (.cons (.ki 4) .nil)) [] .nil)) (.var 3)) .nil)) b1__law_case)
 (.cons (.frzv 4)
 (.cons (.frzv 5)
 (.cons (.asg (.nm 7) (.bin false .mul (.sub (.lst false (.cons (.ki 1) (.cons (.ki 1) (.cons (.ki 2) (.cons (.ki 0) .nil))))) (.call "_law_take" (.cons (.var 0) (.cons (.ki 4) .nil)) [] .nil)) (.var 3)))
 (.cons (.asg (.nm 8) (.lc false x1__law_case (.nm 6) (.rng (.cons (.var 7) .nil)) (.kb true)))
 (.cons (.ret (.tup (.cons (.blt false .tuple (.cons (.blt false .sorted (.cons (.var 5) .nil)) .nil)) (.cons (.blt false .tuple (.cons (.var 8) .nil)) .nil))))
 .nil))))))))⟩
/-! _law_rule -/
def x1__law_rule : Ex := (.call "_law_case" (.cons (.var 0) (.cons (.var 1) (.cons (.var 2) .nil))) [] .nil)
def f__law_rule : Fn := ⟨["_law_box_here", "_law_things", "_law_places"], [], 5,
 (.cons (.asg (.nm 3) (.sub (.lst false (.cons (.ki 1) (.cons (.ki 1) (.cons (.ki 1) (.cons (.ki 2) (.cons (.ki 2) (.cons (.ki 3) (.cons (.ki 0) (.cons (.ki 6) .nil))))))))) (.call "_law_take" (.cons (.var 0) (.cons (.ki 8) .nil)) [] .nil)))
 (.cons (.ret (.blt false .tuple (.cons (.lc false x1__law_rule (.nm 4) (.rng (.cons (.var 3) .nil)) (.kb true)) .nil)))
 .nil))⟩
/-! _law_day -/
def x1__law_day : Ex := (.call "_law_take" (.cons (.var 0) (.cons (.var 2) .nil)) [] .nil)
def x2__law_day : Ex := (.tup (.cons (.var 8) (.cons (.call "_law_rule" (.cons (.var 0) (.cons (.var 2) (.cons (.var 4) .nil))) [] .nil) .nil)))
def f__law_day : Fn := ⟨["_law_box_here", "_law_most"], [], 9,
 (.cons (.asg (.tp (.cons (.nm 2) (.cons (.nm 3) .nil))) (.tup (.cons (.sub (.lst false (.cons (.ki 2) (.cons (.ki 2) (.cons (.ki 3) (.cons (.ki 4) .nil))))) (.call "_law_take" (.cons (.var 0) (.cons (.ki 4) .nil)) [] .nil)) (.cons (.bin false .add (.ki 4) (.call "_law_take" (.cons (.var 0) (.cons (.ki 3) .nil)) [] .nil)) .nil))))
 (.cons (.asg (.nm 4) (.sub (.lst false (.cons (.ki 1) (.cons (.ki 2) (.cons (.ki 2) (.cons (.ki 2) (.cons (.ki 2) (.cons (.ki 3) (.cons (.ki 3) (.cons (.var 3) .nil))))))))) (.call "_law_take" (.cons (.var 0) (.cons (.ki 8) .nil)) [] .nil)))
 (.cons (.asg (.nm 5) (.call "_law_names" (.cons (.var 0) (.cons (.blt false .max (.cons (.ki 1) (.cons (.bin false .sub (.var 1) (.sub (.lst false (.cons (.ki 0) (.cons (.ki 0) (.cons (.ki 0) (.cons (.ki 1) (.cons (.ki 1) (.cons (.ki 2) (.cons (.ki 3) (.cons (.ki 4) .nil))))))))) (.call "_law_take" (.cons (.var 0) (.cons (.ki 8) .nil)) [] .nil))) .nil))) .nil)) [] .nil))
 (.cons (.asg (.nm 7) (.blt false .tuple (.cons (.lc false x1__law_day (.nm 6) (.rng (.cons (.var 4) .nil)) (.kb true)) .nil)))
 (.cons (.ret (.tup (.cons (.var 2) (.cons (.var 7) (.cons (.blt false .tuple (.cons (.lc false x2__law_day (.nm 8) (.var 5) (.kb true)) .nil)) .nil)))))
 .nil)))))⟩
/-! names_of -/
def x1_names_of : Ex := (.var 1)
def f_names_of : Fn := ⟨["day"], [], 3,
 (.cons (.ret (.blt false .tuple (.cons (.lc false x1_names_of (.tp (.cons (.nm 1) (.cons (.nm 2) .nil))) (.sub (.var 0) (.ki 2)) (.kb true)) .nil)))
 .nil)⟩
/-! rule_of -/
def b1_rule_of : St := (.cons (.if_ (.cmp .eq (.var 2) (.var 1)) (.cons (.ret (.var 3))
 .nil) .nil)
 .nil)
def f_rule_of : Fn := ⟨["day", "name"], [], 4,
 (.cons (.for_ (.tp (.cons (.nm 2) (.cons (.nm 3) .nil))) (.sub (.var 0) (.ki 2)) b1_rule_of)
 (.cons (.raise false .noName (.cons (.var 1) .nil))
 .nil))⟩
/-! all_hold -/
def x1_all_hold : Ex := (.cmp .eq (.sub (.var 1) (.var 2)) (.var 3))
def f_all_hold : Fn := ⟨["conditions", "state"], [], 4,
 (.cons (.ret (.blt false .all (.cons (.lc false x1_all_hold (.tp (.cons (.nm 2) (.cons (.nm 3) .nil))) (.var 0) (.kb true)) .nil)))
 .nil)⟩
/-! matching_case -/
def b1_matching_case : St := (.cons (.if_ (.call "all_hold" (.cons (.var 4) (.cons (.var 2) .nil)) [] .nil) (.cons (.ret (.var 3))
 .nil) .nil)
 .nil)
def f_matching_case : Fn := ⟨["day", "name", "state"], [], 6,
 (.cons (.for_ (.tp (.cons (.nm 3) (.cons (.tp (.cons (.nm 4) (.cons (.nm 5) .nil))) .nil))) (.enum (.call "rule_of" (.cons (.var 0) (.cons (.var 1) .nil)) [] .nil)) b1_matching_case)
 (.cons (.ret .kn)
 .nil))⟩
/-! _law_rival -/
def f__law_rival : Fn := ⟨["_law_box_here", "_law_day_own"], [], 9,
 (.cons (.asg (.tp (.cons (.nm 2) (.cons (.nm 3) (.cons (.nm 4) .nil)))) (.var 1))
 (.cons (.asg (.tp (.cons (.nm 5) (.cons (.nm 6) (.cons (.nm 7) .nil)))) (.tup (.cons (.call "_law_take" (.cons (.var 0) (.cons (.blt false .len (.cons (.var 4) .nil)) .nil)) [] .nil) (.cons (.call "_law_take" (.cons (.var 0) (.cons (.ki 4) .nil)) [] .nil) (.cons (.call "_law_take" (.cons (.var 0) (.cons (.blt false .len (.cons (.var 3) .nil)) .nil)) [] .nil) .nil)))))
 (.cons (.if_ (.and (.cmp .eq (.var 6) (.ki 3)) (.cmp .lt (.var 2) (.ki 4))) (.cons (.ret (.tup (.cons (.bin false .add (.var 2) (.ki 1)) (.cons (.var 3) (.cons (.var 4) .nil)))))
 .nil) .nil)
 (.cons (.if_ (.cmp .gt (.var 6) (.ki 1)) (.cons (.ret (.tup (.cons (.var 2) (.cons (.bin false .add (.bin false .add (.sli false (.var 3) .kn (.var 7)) (.tup (.cons (.bin false .mod (.bin false .add (.sub (.var 3) (.var 7)) (.ki 1)) (.var 2)) .nil))) (.sli false (.var 3) (.bin false .add (.var 7) (.ki 1)) .kn)) (.cons (.var 4) .nil)))))
 .nil) .nil)
 (.cons (.asg (.nm 8) (.call "_law_rule" (.cons (.var 0) (.cons (.var 2) (.cons (.blt false .len (.cons (.var 3) .nil)) .nil))) [] .nil))
 (.cons (.ret (.tup (.cons (.var 2) (.cons (.var 3) (.cons (.bin false .add (.bin false .add (.sli false (.var 4) .kn (.var 5)) (.tup (.cons (.tup (.cons (.sub (.sub (.var 4) (.var 5)) (.ki 0)) (.cons (.var 8) .nil))) .nil))) (.sli false (.var 4) (.bin false .add (.var 5) (.ki 1)) .kn)) .nil)))))
 .nil))))))⟩
/-! acted -/
def f_acted : Fn := ⟨["day", "action", "state"], [], 7,
 (.cons (.asg (.nm 3) (.blt true .list (.cons (.var 2) .nil)))
 (.cons (.asg (.tp (.cons (.nm 4) (.cons (.nm 5) (.cons (.star 6) .nil)))) (.var 1))
 (.cons (.if_ (.cmp .eq (.var 4) (.ks "next")) (.cons (.asgS (.var 3) (.var 5) (.bin false .mod (.bin false .add (.sub (.var 3) (.var 5)) (.ki 1)) (.sub (.var 0) (.ki 0))))
 .nil) (.cons (.if_ (.cmp .eq (.var 4) (.ks "put")) (.cons (.asgS (.var 3) (.var 5) (.sub (.var 6) (.ki 0)))
 .nil) (.cons (.asgSS (.var 3) (.var 5) (.var 3) (.sub (.var 6) (.ki 0)) (.sub (.var 3) (.sub (.var 6) (.ki 0))) (.sub (.var 3) (.var 5)))
 .nil))
 .nil))
 (.cons (.frzv 3)
 (.cons (.ret (.blt false .tuple (.cons (.var 3) .nil)))
 .nil)))))⟩
/-! visited -/
def b1_visited : St := (.cons (.asg (.nm 2) (.call "acted" (.cons (.var 0) (.cons (.var 4) (.cons (.var 2) .nil))) [] .nil))
 .nil)
def f_visited : Fn := ⟨["day", "name", "state"], [], 5,
 (.cons (.asg (.nm 3) (.call "matching_case" (.cons (.var 0) (.cons (.var 1) (.cons (.var 2) .nil))) [] .nil))
 (.cons (.if_ (.cmp .is_ (.var 3) .kn) (.cons (.ret (.var 2))
 .nil) .nil)
 (.cons (.for_ (.nm 4) (.sub (.sub (.call "rule_of" (.cons (.var 0) (.cons (.var 1) .nil)) [] .nil) (.var 3)) (.ki 1)) b1_visited)
 (.cons (.ret (.var 2))
 .nil))))⟩
/-! _law_acted -/
def f__law_acted : Fn := ⟨["_law_day_here", "_law_action_here", "_law_state"], [], 6,
 (.cons (.asg (.nm 3) (.blt true .list (.cons (.var 2) .nil)))
 (.cons (.if_ (.cmp .eq (.sub (.var 1) (.ki 0)) (.ks "put")) (.cons (.asgS (.var 3) (.sub (.var 1) (.ki 1)) (.sub (.var 1) (.ki 2)))
 .nil) (.cons (.if_ (.cmp .eq (.sub (.var 1) (.ki 0)) (.ks "next")) (.cons (.asgS (.var 3) (.sub (.var 1) (.ki 1)) (.bin false .mod (.bin false .add (.sub (.var 3) (.sub (.var 1) (.ki 1))) (.ki 1)) (.sub (.var 0) (.ki 0))))
 .nil) (.cons (.asg (.tp (.cons (.nm 4) (.cons (.nm 5) .nil))) (.sli false (.var 1) (.ki 1) .kn))
 (.cons (.asgSS (.var 3) (.var 4) (.var 3) (.var 5) (.sub (.var 2) (.var 5)) (.sub (.var 2) (.var 4)))
 .nil)))
 .nil))
 (.cons (.frzv 3)
 (.cons (.ret (.blt false .tuple (.cons (.var 3) .nil)))
 .nil))))⟩
/-! _law_visited -/
def x1__law_visited : Ex := (.cmp .eq (.sub (.var 2) (.var 5)) (.var 6))
def b1__law_visited : St := (.cons (.asg (.nm 2) (.call "_law_acted" (.cons (.var 0) (.cons (.var 7) (.cons (.var 2) .nil))) [] .nil))
 .nil)
def b2__law_visited : St := (.cons (.if_ (.blt false .all (.cons (.lc false x1__law_visited (.tp (.cons (.nm 5) (.cons (.nm 6) .nil))) (.var 3) (.kb true)) .nil)) (.cons (.for_ (.nm 7) (.var 4) b1__law_visited)
 (.cons (.ret (.var 2))
 .nil)) .nil)
 .nil)
def f__law_visited : Fn := ⟨["_law_day_here", "_law_name", "_law_state"], [], 8,
 (.cons (.for_ (.tp (.cons (.nm 3) (.cons (.nm 4) .nil))) (.sub (.blt false .dict (.cons (.sub (.var 0) (.ki 2)) .nil)) (.var 1)) b2__law_visited)
 (.cons (.ret (.var 2))
 .nil))⟩
/-! is_constraint -/
def x1_is_constraint : Ex := (.isi (.var 2) [.str])
def f_is_constraint : Fn := ⟨["names", "item"], [], 3,
 (.cons (.if_ (.or (.not (.isi (.var 1) [.tuple])) (.or (.cmp .ne (.blt false .len (.cons (.var 1) .nil)) (.ki 2)) (.not (.blt false .all (.cons (.lc false x1_is_constraint (.nm 2) (.var 1) (.kb true)) .nil))))) (.cons (.ret (.kb false))
 .nil) .nil)
 (.cons (.ret (.and (.cmp .in_ (.sub (.var 1) (.ki 0)) (.var 0)) (.and (.cmp .in_ (.sub (.var 1) (.ki 1)) (.var 0)) (.cmp .ne (.sub (.var 1) (.ki 0)) (.sub (.var 1) (.ki 1))))))
 .nil))⟩
/-! cycle_among -/
def x1_cycle_among : Ex := (.cmp .nin (.var 3) (.var 2))
def x2_cycle_among : Ex := (.var 4)
def x3_cycle_among : Ex := (.and (.cmp .eq (.var 5) (.sub (.var 2) (.neg (.ki 1)))) (.cmp .in_ (.var 4) (.var 1)))
def b1_cycle_among : St := (.cons (.ex (.met false .append (.var 2) (.cons (.var 3) .nil)))
 (.cons (.asg (.nm 3) (.sub (.lc false x2_cycle_among (.tp (.cons (.nm 4) (.cons (.nm 5) .nil))) (.var 0) x3_cycle_among) (.ki 0)))
 .nil))
def f_cycle_among : Fn := ⟨["pairs", "names"], [], 6,
 (.cons (.asg (.tp (.cons (.nm 2) (.cons (.nm 3) .nil))) (.tup (.cons (.lst true .nil) (.cons (.sub (.var 1) (.ki 0)) .nil))))
 (.cons (.while_ x1_cycle_among b1_cycle_among)
 (.cons (.frzv 2)
 (.cons (.ret (.blt false .tuple (.cons (.rev false (.sli false (.var 2) (.met false .index (.var 2) (.cons (.var 3) .nil)) .kn)) .nil)))
 .nil))))⟩
/-! find_cycle -/
def x1_find_cycle : Ex := (.var 2)
def x2_find_cycle : Ex := (.var 4)
def x3_find_cycle : Ex := (.cmp .in_ (.var 3) (.var 2))
def x4_find_cycle : Ex := (.var 6)
def x5_find_cycle : Ex := (.cmp .nin (.var 6) (.var 5))
def x6_find_cycle : Ex := (.var 6)
def x7_find_cycle : Ex := (.cmp .in_ (.var 6) (.var 5))
def b1_find_cycle : St := (.cons (.asg (.nm 5) (.lc false x2_find_cycle (.tp (.cons (.nm 3) (.cons (.nm 4) .nil))) (.var 1) x3_find_cycle))
 (.cons (.asg (.nm 7) (.lc false x4_find_cycle (.nm 6) (.var 2) x5_find_cycle))
 (.cons (.if_ (.not (.var 7)) (.cons (.ret (.call "cycle_among" (.cons (.var 1) (.cons (.var 2) .nil)) [] .nil))
 .nil) .nil)
 (.cons (.asg (.nm 2) (.lc false x6_find_cycle (.nm 6) (.var 2) x7_find_cycle))
 .nil))))
def f_find_cycle : Fn := ⟨["day", "pairs"], [], 8,
 (.cons (.asg (.nm 2) (.blt false .list (.cons (.call "names_of" (.cons (.var 0) .nil) [] .nil) .nil)))
 (.cons (.while_ x1_find_cycle b1_find_cycle)
 (.cons (.ret .kn)
 .nil)))⟩
/-! check_pairs -/
def b1_check_pairs : St := (.cons (.if_ (.not (.call "is_constraint" (.cons (.var 2) (.cons (.var 4) .nil)) [] .nil)) (.cons (.raise false .noPair (.cons (.var 3) .nil))
 .nil) .nil)
 .nil)
def f_check_pairs : Fn := ⟨["day", "pairs"], [], 6,
 (.cons (.asg (.nm 2) (.call "names_of" (.cons (.var 0) .nil) [] .nil))
 (.cons (.for_ (.tp (.cons (.nm 3) (.cons (.nm 4) .nil))) (.enum (.var 1)) b1_check_pairs)
 (.cons (.asg (.nm 5) (.call "find_cycle" (.cons (.var 0) (.cons (.var 1) .nil)) [] .nil))
 (.cons (.if_ (.cmp .isn (.var 5) .kn) (.cons (.raise false .cycle (.cons (.var 5) .nil))
 .nil) .nil)
 .nil))))⟩
/-! _law_pairs -/
def x1__law_pairs : Ex := (.var 3)
def b1__law_pairs : St := (.cons (.asg (.nm 8) (.bin false .add (.ki 1) (.call "_law_take" (.cons (.var 0) (.cons (.bin false .sub (.blt false .len (.cons (.var 5) .nil)) (.ki 1)) .nil)) [] .nil)))
 (.cons (.ex (.met false .append (.var 6) (.cons (.tup (.cons (.sub (.var 5) (.call "_law_take" (.cons (.var 0) (.cons (.var 8) .nil)) [] .nil)) (.cons (.sub (.var 5) (.var 8)) .nil))) .nil)))
 .nil))
def f__law_pairs : Fn := ⟨["_law_box_here", "_law_day_here", "_law_most"], [], 9,
 (.cons (.asg (.tp (.cons (.nm 5) (.cons (.nm 6) .nil))) (.tup (.cons (.call "_law_mixed" (.cons (.var 0) (.cons (.lc false x1__law_pairs (.tp (.cons (.nm 3) (.cons (.nm 4) .nil))) (.sub (.var 1) (.ki 2)) (.kb true)) .nil)) [] .nil) (.cons (.lst true .nil) .nil))))
 (.cons (.for_ (.nm 7) (.rng (.cons (.bin false .mul (.call "_law_take" (.cons (.var 0) (.cons (.bin false .add (.var 2) (.ki 1)) .nil)) [] .nil) (.blt false .int (.cons (.cmp .gt (.blt false .len (.cons (.var 5) .nil)) (.ki 1)) .nil))) .nil)) b1__law_pairs)
 (.cons (.frzv 6)
 (.cons (.ret (.var 6))
 .nil))))⟩
/-! coming -/
def x1_coming : Ex := (.var 4)
def x2_coming : Ex := (.cmp .nin (.var 3) (.var 2))
def x3_coming : Ex := (.var 6)
def x4_coming : Ex := (.and (.cmp .nin (.var 6) (.var 2)) (.cmp .nin (.var 6) (.var 5)))
def f_coming : Fn := ⟨["day", "pairs", "come"], [], 7,
 (.cons (.asg (.nm 5) (.lc false x1_coming (.tp (.cons (.nm 3) (.cons (.nm 4) .nil))) (.var 1) x2_coming))
 (.cons (.ret (.blt false .tuple (.cons (.lc false x3_coming (.nm 6) (.call "names_of" (.cons (.var 0) .nil) [] .nil) x4_coming) .nil)))
 .nil))⟩
/-! next_visitors -/
def b1_next_visitors : St := (.cons (.if_ (.cmp .nin (.var 3) (.call "names_of" (.cons (.var 0) .nil) [] .nil)) (.cons (.raise false .noName (.cons (.var 3) .nil))
 .nil) .nil)
 .nil)
def f_next_visitors : Fn := ⟨["day", "pairs", "come"], [], 4,
 (.cons (.ex (.call "check_pairs" (.cons (.var 0) (.cons (.var 1) .nil)) [] .nil))
 (.cons (.for_ (.nm 3) (.var 2) b1_next_visitors)
 (.cons (.ret (.call "coming" (.cons (.var 0) (.cons (.var 1) (.cons (.var 2) .nil))) [] .nil))
 .nil)))⟩
end Dy
end

section
set_option linter.all false
set_option maxRecDepth 100000
set_option maxHeartbeats 1000000
set_option Elab.async false
namespace Dy
open PySem
local macro_rules | `(tactic| walk_at "dy") => `(tactic| simp -implicitDefEqProofs only [eS_nil, eS_cons, eS_asg, eS_asgS, eS_asgSS, kSS0, kSS1, kSS2, kSS3, kSS4, eS_aug, eS_ex, eS_for, eS_while, eS_if, eS_ret, eS_retN, eS_raise, eS_brk, eS_cnt, eS_pass, eS_try, eS_hnil, kTry_nx, kTry_rt, kTry_bk, kTry_ct, kTry_ex, eS_hyesN, eS_hyes0, eS_hno, calmF_nx, calmF_rt, calmF_bk, calmF_ct, unas_nx, unas_rt, unas_bk, unas_ct, set_end, get_end, eS_frzv, eT, nx_then, eE_nil, eE_cons, eE_var, eE_kn, eE_kb, eE_ki, eE_ks, eE_glo, eE_bin, eE_neg, eE_cmp, eE_cmp2, eE_not, eE_and, eE_or, eE_ife, eE_tup, eE_lst, eE_call, eE_blt, eE_met, eE_isi, eE_sub, eE_sli, eE_rev, eE_lc, eE_listr, eE_rng, eE_enum, eE_zip, kZip, zipD, eE_exf, eE_ise, exM_exc, exOf_ref, kIse_1, kIse_2, kExf_word, kExf_visitor, kExf_case, kExf_row, kExf_atV, kExf_atO, kExf_atP, kExf_names, kExf_many, kExf_wordM, kExf_most, kExf_atB, kExf_name, seqP_p, seqP_t, seqP_l, seqP_r, lsOf_t, lsOf_l, lsOf_d, EC.fs, EC.leaf, eE_frz,
  varM_some, kCons, kCons2, kBin, kNeg, kBl, kCmp, kCmp2, kC21, kC22, kC23, kNot, kNot2, kAnd, kAnd2, kOr, kOr2, kIfe, kIfe2, kLst, kCall, kCall2, kBlt, kMet, kMet2, kIsi, kSub, kSub2, kSli, kSli1, kSli2, kRev, kLc, kLc2, kRng_1, kRng_nat, kRng_2, kEnum, kFrz, ofS_some, kAsg, kNx, kAS1, kAS2, kAS3, kAug, augM, kTru, kFor, kFor2, kIf, kRaise, frzM, frzM2, asTup,
  R.bind_ok, R.bind_ex, R.go_ok, R.go_ex, Fl.then_ex, Fl.turn_ex, Fl.then_nx, Fl.then_rt, Fl.then_bk, Fl.then_ct, Fl.turn_nx, Fl.turn_rt, Fl.turn_bk, Fl.turn_ct, R.opt_some, calm_ok, List.map_cons, List.map_nil, List.length_cons, List.length_nil, List.replicate, List.cons_append, List.nil_append, List.append_nil, List.getElem?_cons_zero, List.getElem?_cons_succ, List.set_cons_zero, List.set_cons_succ,
  subD, cmpD, truthy_non, truthy_bl, truthy_int, truthy_str, truthy_tup, truthy_lst, setT, binD, putD, mkL, mkD, bltD, lenD_str, lenD_tup, lenD_lst, lenD_scr, lenD_ref, lenM_lst, clr, Tg.slots, seqOf_t, seqOf_l, seqOf_r, lstOf_l, lstOf_r, lstM_some, metD, Mt.rcv, Mt.kind, D.isStr, known, Ty.has, Ty.isB, srcOf_t, srcOf_l, srcOf_r, srcM_lst, forS_its, compS_its, eqD_int, eqD_str, eqD_bl, res, D.isNon, intOf, intsOf, boolsOf, strsOf, bdR, Ex.isKn, sliD, revD, addL, attrD, mulOk, pow64, enumL,
  List.all_cons, List.all_nil, List.any_cons, List.any_nil, Option.bind_some, Option.map_some, Option.isSome_some, Bool.and_true, Bool.true_and, Bool.or_false, Bool.false_or, Bool.or_true, Bool.true_or, Bool.and_self, Bool.and_false, Bool.false_and, Bool.not_true, Bool.not_false, Bool.not_not, Bool.false_eq_true, decide_eq_true_eq, decide_true, decide_false, if_true, if_false, ite_true, ite_false, ↓reduceIte, ne_eq, not_true_eq_false, not_false_eq_true, and_self, and_true, true_and,
  natC2, natC3, natC4, natC5, natC6, natC7, natC8, natC9, Int.natCast_zero, Int.natCast_one, cutL_to, cutL_from, cutL_ab, cutL_all, Int.zero_add, natAbs_10, Int.reducePow, atL_nat, Int.natCast_nonneg, natGe, Int.toNat_natCast, List.getElem_cons_zero, atL_nn, Int.le_refl, Int.toNat_zero, Int.reduceLT, Int.reduceLE, Int.reduceToNat, Int.reduceNeg, Int.reduceAdd, Int.reduceMul, Int.reduceSub, Int.reduceEq, Int.reduceBNe, Int.reduceBEq, Nat.reduceAdd, Nat.reduceSub, Nat.reduceLT, Nat.reduceEqDiff, Nat.zero_add, Nat.add_zero, List.getElem?_set_self, List.set_set, List.length_set, List.length_append, Int.reduceNeg, reduceCtorEq])
local macro_rules | `(tactic| walk_at "dy*") => `(tactic| simp -implicitDefEqProofs only [eS_nil, eS_cons, eS_asg, eS_asgS, eS_asgSS, kSS0, kSS1, kSS2, kSS3, kSS4, eS_aug, eS_ex, eS_for, eS_while, eS_if, eS_ret, eS_retN, eS_raise, eS_brk, eS_cnt, eS_pass, eS_try, eS_hnil, kTry_nx, kTry_rt, kTry_bk, kTry_ct, kTry_ex, eS_hyesN, eS_hyes0, eS_hno, calmF_nx, calmF_rt, calmF_bk, calmF_ct, unas_nx, unas_rt, unas_bk, unas_ct, set_end, get_end, eS_frzv, eT, nx_then, eE_nil, eE_cons, eE_var, eE_kn, eE_kb, eE_ki, eE_ks, eE_glo, eE_bin, eE_neg, eE_cmp, eE_cmp2, eE_not, eE_and, eE_or, eE_ife, eE_tup, eE_lst, eE_call, eE_blt, eE_met, eE_isi, eE_sub, eE_sli, eE_rev, eE_lc, eE_listr, eE_rng, eE_enum, eE_zip, kZip, zipD, eE_exf, eE_ise, exM_exc, exOf_ref, kIse_1, kIse_2, kExf_word, kExf_visitor, kExf_case, kExf_row, kExf_atV, kExf_atO, kExf_atP, kExf_names, kExf_many, kExf_wordM, kExf_most, kExf_atB, kExf_name, seqP_p, seqP_t, seqP_l, seqP_r, lsOf_t, lsOf_l, lsOf_d, EC.fs, EC.leaf, eE_frz,
  varM_some, kCons, kCons2, kBin, kNeg, kBl, kCmp, kCmp2, kC21, kC22, kC23, kNot, kNot2, kAnd, kAnd2, kOr, kOr2, kIfe, kIfe2, kLst, kCall, kCall2, kBlt, kMet, kMet2, kIsi, kSub, kSub2, kSli, kSli1, kSli2, kRev, kLc, kLc2, kRng_1, kRng_nat, kRng_2, kEnum, kFrz, ofS_some, kAsg, kNx, kAS1, kAS2, kAS3, kAug, augM, kTru, kFor, kFor2, kIf, kRaise, frzM, frzM2, asTup,
  R.bind_ok, R.bind_ex, R.go_ok, R.go_ex, Fl.then_ex, Fl.turn_ex, Fl.then_nx, Fl.then_rt, Fl.then_bk, Fl.then_ct, Fl.turn_nx, Fl.turn_rt, Fl.turn_bk, Fl.turn_ct, R.opt_some, calm_ok, List.map_cons, List.map_nil, List.length_cons, List.length_nil, List.replicate, List.cons_append, List.nil_append, List.append_nil, List.getElem?_cons_zero, List.getElem?_cons_succ, List.set_cons_zero, List.set_cons_succ,
  subD, cmpD, truthy_non, truthy_bl, truthy_int, truthy_str, truthy_tup, truthy_lst, setT, binD, putD, mkL, mkD, bltD, lenD_str, lenD_tup, lenD_lst, lenD_scr, lenD_ref, lenM_lst, clr, Tg.slots, seqOf_t, seqOf_l, seqOf_r, lstOf_l, lstOf_r, lstM_some, metD, Mt.rcv, Mt.kind, D.isStr, known, Ty.has, Ty.isB, srcOf_t, srcOf_l, srcOf_r, srcM_lst, forS_its, compS_its, eqD_int, eqD_str, eqD_bl, res, D.isNon, intOf, intsOf, boolsOf, strsOf, bdR, Ex.isKn, sliD, revD, addL, attrD, mulOk, pow64, enumL,
  List.all_cons, List.all_nil, List.any_cons, List.any_nil, Option.bind_some, Option.map_some, Option.isSome_some, Bool.and_true, Bool.true_and, Bool.or_false, Bool.false_or, Bool.or_true, Bool.true_or, Bool.and_self, Bool.and_false, Bool.false_and, Bool.not_true, Bool.not_false, Bool.not_not, Bool.false_eq_true, decide_eq_true_eq, decide_true, decide_false, if_true, if_false, ite_true, ite_false, ↓reduceIte, ne_eq, not_true_eq_false, not_false_eq_true, and_self, and_true, true_and,
  natC2, natC3, natC4, natC5, natC6, natC7, natC8, natC9, Int.natCast_zero, Int.natCast_one, cutL_to, cutL_from, cutL_ab, cutL_all, Int.zero_add, natAbs_10, Int.reducePow, atL_nat, Int.natCast_nonneg, natGe, Int.toNat_natCast, List.getElem_cons_zero, atL_nn, Int.le_refl, Int.toNat_zero, Int.reduceLT, Int.reduceLE, Int.reduceToNat, Int.reduceNeg, Int.reduceAdd, Int.reduceMul, Int.reduceSub, Int.reduceEq, Int.reduceBNe, Int.reduceBEq, Nat.reduceAdd, Nat.reduceSub, Nat.reduceLT, Nat.reduceEqDiff, Nat.zero_add, Nat.add_zero, List.getElem?_set_self, List.set_set, List.length_set, List.length_append, Int.reduceNeg, reduceCtorEq, *])
structure HasTake (T : Tx) : Prop where
  take : T.fn "_law_take" = some f__law_take
  mixed : T.fn "_law_mixed" = some f__law_mixed
variable {T : Tx} {c : Cl} {h : Hh} {b : Nat}
theorem GrB.set {h' : Hh} (g : GrB b h h') (hb : b < h.length) (x s z : Int) : GrB b h (h'.set b (.lst [.int x, .int s, .int z])) :=
  ⟨by rw [List.length_set]; exact g.1, fun i hi ne => by rw [List.getElem?_set_ne (Ne.symm ne)]; exact g.2.1 i hi ne, ⟨x, s, z, by rw [List.getElem?_set_self (Nat.lt_of_lt_of_le hb g.1)]⟩⟩
/-- another thing than the box, made here -/
theorem GrB.mk {h' : Hh} {n : Nat} {o : Ob} (g : GrB b h h') (hb : b < h.length) (hn : h.length ≤ n) : GrB b h (h'.set n o) :=
  ⟨by rw [List.length_set]; exact g.1, fun i hi ne => by rw [List.getElem?_set_ne (by omega)]; exact g.2.1 i hi ne, by
    obtain ⟨x, y, z, e⟩ := g.2.2
    exact ⟨x, y, z, by rw [List.getElem?_set_ne (by omega)]; exact e⟩⟩
/-- what was made here stands through calls that draw -/
theorem Bx.get {h' : Hh} (g : Bx b h h') {n : Nat} (hn : n ≠ b) : h'[n]? = h[n]? := g.2.1 n hn
theorem s_take (H : HasTake T) (hc : At T 1 c) {n : Int} (hb : isBox h b) (hn : 0 < n) (hn2 : n < 1073741824) : Rt (c.call "_law_take" [.ref b, .int n] [] [] h) fun d h' => ∃ i, d = .int i ∧ 0 ≤ i ∧ i < n ∧ Bx b h h' := by
  obtain ⟨c', hc', e⟩ := hc.enter (vs := [.ref b, .int n]) (ks := []) (ws := []) H.take rfl h
  have hbl := hb.lt
  have hb0 := hb
  obtain ⟨x, s, z, hx⟩ := hb
  rw [e]; clear e
  by_cases h0 : 0 < x
  · simp only [f__law_take]
    walk_at "dy*"
    exact .rtB hbl ((GrB.refl hb0).set hbl (x / n) s z) rfl fun h1 e2 => ⟨_, rfl, Int.emod_nonneg _ (by omega), Int.emod_lt_of_pos _ hn, e2⟩
  · simp only [f__law_take]
    walk_at "dy*"
    generalize ((s + 104729 * (z + 1)) * 69623 % 2147483647 * 2147483647 + (((s + 104729 * (z + 1)) * 69623 % 2147483647 * 48271 + 30103) % 2147483629 + 1)) / 8191 = q
    generalize ((s + 104729 * (z + 1)) * 69623 % 2147483647 * 48271 + 30103) % 2147483629 + 1 = q2
    exact .rtB hbl ((GrB.refl hb0).set hbl x q2 (z + 1)) rfl fun h1 e2 => ⟨_, rfl, Int.emod_nonneg _ (by omega), Int.emod_lt_of_pos _ hn, e2⟩
theorem perm_move {α : Type} {l f : List α} {d : α} {i : Nat} (e : l[i]? = some d) : ((f ++ [d]) ++ l.eraseIdx i).Perm (f ++ l) := by
  obtain ⟨hi, rfl⟩ := List.getElem?_eq_some_iff.mp e
  rw [List.append_assoc]
  refine List.Perm.append_left f ?_
  have : l = l.take i ++ l[i] :: l.drop (i + 1) := by rw [List.getElem_cons_drop]; simp
  conv => rhs; rw [this]
  rw [List.eraseIdx_eq_take_drop_succ]
  exact (List.perm_middle (a := l[i]) (l₁ := l.take i) (l₂ := l.drop (i + 1))).symm
end Dy
end

section
set_option linter.all false
set_option maxRecDepth 100000
set_option maxHeartbeats 1000000
set_option Elab.async false
namespace Dy
open PySem
local macro_rules | `(tactic| walk_at "dy") => `(tactic| simp -implicitDefEqProofs only [eS_nil, eS_cons, eS_asg, eS_asgS, eS_asgSS, kSS0, kSS1, kSS2, kSS3, kSS4, eS_aug, eS_ex, eS_for, eS_while, eS_if, eS_ret, eS_retN, eS_raise, eS_brk, eS_cnt, eS_pass, eS_try, eS_hnil, kTry_nx, kTry_rt, kTry_bk, kTry_ct, kTry_ex, eS_hyesN, eS_hyes0, eS_hno, calmF_nx, calmF_rt, calmF_bk, calmF_ct, unas_nx, unas_rt, unas_bk, unas_ct, set_end, get_end, eS_frzv, eT, nx_then, eE_nil, eE_cons, eE_var, eE_kn, eE_kb, eE_ki, eE_ks, eE_glo, eE_bin, eE_neg, eE_cmp, eE_cmp2, eE_not, eE_and, eE_or, eE_ife, eE_tup, eE_lst, eE_call, eE_blt, eE_met, eE_isi, eE_sub, eE_sli, eE_rev, eE_lc, eE_listr, eE_rng, eE_enum, eE_zip, kZip, zipD, eE_exf, eE_ise, exM_exc, exOf_ref, kIse_1, kIse_2, kExf_word, kExf_visitor, kExf_case, kExf_row, kExf_atV, kExf_atO, kExf_atP, kExf_names, kExf_many, kExf_wordM, kExf_most, kExf_atB, kExf_name, seqP_p, seqP_t, seqP_l, seqP_r, lsOf_t, lsOf_l, lsOf_d, EC.fs, EC.leaf, eE_frz,
  varM_some, kCons, kCons2, kBin, kNeg, kBl, kCmp, kCmp2, kC21, kC22, kC23, kNot, kNot2, kAnd, kAnd2, kOr, kOr2, kIfe, kIfe2, kLst, kCall, kCall2, kBlt, kMet, kMet2, kIsi, kSub, kSub2, kSli, kSli1, kSli2, kRev, kLc, kLc2, kRng_1, kRng_nat, kRng_2, kEnum, kFrz, ofS_some, kAsg, kNx, kAS1, kAS2, kAS3, kAug, augM, kTru, kFor, kFor2, kIf, kRaise, frzM, frzM2, asTup,
  R.bind_ok, R.bind_ex, R.go_ok, R.go_ex, Fl.then_ex, Fl.turn_ex, Fl.then_nx, Fl.then_rt, Fl.then_bk, Fl.then_ct, Fl.turn_nx, Fl.turn_rt, Fl.turn_bk, Fl.turn_ct, R.opt_some, calm_ok, List.map_cons, List.map_nil, List.length_cons, List.length_nil, List.replicate, List.cons_append, List.nil_append, List.append_nil, List.getElem?_cons_zero, List.getElem?_cons_succ, List.set_cons_zero, List.set_cons_succ,
  subD, cmpD, truthy_non, truthy_bl, truthy_int, truthy_str, truthy_tup, truthy_lst, setT, binD, putD, mkL, mkD, bltD, lenD_str, lenD_tup, lenD_lst, lenD_scr, lenD_ref, lenM_lst, clr, Tg.slots, seqOf_t, seqOf_l, seqOf_r, lstOf_l, lstOf_r, lstM_some, metD, Mt.rcv, Mt.kind, D.isStr, known, Ty.has, Ty.isB, srcOf_t, srcOf_l, srcOf_r, srcM_lst, forS_its, compS_its, eqD_int, eqD_str, eqD_bl, res, D.isNon, intOf, intsOf, boolsOf, strsOf, bdR, Ex.isKn, sliD, revD, addL, attrD, mulOk, pow64, enumL,
  List.all_cons, List.all_nil, List.any_cons, List.any_nil, Option.bind_some, Option.map_some, Option.isSome_some, Bool.and_true, Bool.true_and, Bool.or_false, Bool.false_or, Bool.or_true, Bool.true_or, Bool.and_self, Bool.and_false, Bool.false_and, Bool.not_true, Bool.not_false, Bool.not_not, Bool.false_eq_true, decide_eq_true_eq, decide_true, decide_false, if_true, if_false, ite_true, ite_false, ↓reduceIte, ne_eq, not_true_eq_false, not_false_eq_true, and_self, and_true, true_and,
  natC2, natC3, natC4, natC5, natC6, natC7, natC8, natC9, Int.natCast_zero, Int.natCast_one, cutL_to, cutL_from, cutL_ab, cutL_all, Int.zero_add, natAbs_10, Int.reducePow, atL_nat, Int.natCast_nonneg, natGe, Int.toNat_natCast, List.getElem_cons_zero, atL_nn, Int.le_refl, Int.toNat_zero, Int.reduceLT, Int.reduceLE, Int.reduceToNat, Int.reduceNeg, Int.reduceAdd, Int.reduceMul, Int.reduceSub, Int.reduceEq, Int.reduceBNe, Int.reduceBEq, Nat.reduceAdd, Nat.reduceSub, Nat.reduceLT, Nat.reduceEqDiff, Nat.zero_add, Nat.add_zero, List.getElem?_set_self, List.set_set, List.length_set, List.length_append, Int.reduceNeg, reduceCtorEq])
local macro_rules | `(tactic| walk_at "dy*") => `(tactic| simp -implicitDefEqProofs only [eS_nil, eS_cons, eS_asg, eS_asgS, eS_asgSS, kSS0, kSS1, kSS2, kSS3, kSS4, eS_aug, eS_ex, eS_for, eS_while, eS_if, eS_ret, eS_retN, eS_raise, eS_brk, eS_cnt, eS_pass, eS_try, eS_hnil, kTry_nx, kTry_rt, kTry_bk, kTry_ct, kTry_ex, eS_hyesN, eS_hyes0, eS_hno, calmF_nx, calmF_rt, calmF_bk, calmF_ct, unas_nx, unas_rt, unas_bk, unas_ct, set_end, get_end, eS_frzv, eT, nx_then, eE_nil, eE_cons, eE_var, eE_kn, eE_kb, eE_ki, eE_ks, eE_glo, eE_bin, eE_neg, eE_cmp, eE_cmp2, eE_not, eE_and, eE_or, eE_ife, eE_tup, eE_lst, eE_call, eE_blt, eE_met, eE_isi, eE_sub, eE_sli, eE_rev, eE_lc, eE_listr, eE_rng, eE_enum, eE_zip, kZip, zipD, eE_exf, eE_ise, exM_exc, exOf_ref, kIse_1, kIse_2, kExf_word, kExf_visitor, kExf_case, kExf_row, kExf_atV, kExf_atO, kExf_atP, kExf_names, kExf_many, kExf_wordM, kExf_most, kExf_atB, kExf_name, seqP_p, seqP_t, seqP_l, seqP_r, lsOf_t, lsOf_l, lsOf_d, EC.fs, EC.leaf, eE_frz,
  varM_some, kCons, kCons2, kBin, kNeg, kBl, kCmp, kCmp2, kC21, kC22, kC23, kNot, kNot2, kAnd, kAnd2, kOr, kOr2, kIfe, kIfe2, kLst, kCall, kCall2, kBlt, kMet, kMet2, kIsi, kSub, kSub2, kSli, kSli1, kSli2, kRev, kLc, kLc2, kRng_1, kRng_nat, kRng_2, kEnum, kFrz, ofS_some, kAsg, kNx, kAS1, kAS2, kAS3, kAug, augM, kTru, kFor, kFor2, kIf, kRaise, frzM, frzM2, asTup,
  R.bind_ok, R.bind_ex, R.go_ok, R.go_ex, Fl.then_ex, Fl.turn_ex, Fl.then_nx, Fl.then_rt, Fl.then_bk, Fl.then_ct, Fl.turn_nx, Fl.turn_rt, Fl.turn_bk, Fl.turn_ct, R.opt_some, calm_ok, List.map_cons, List.map_nil, List.length_cons, List.length_nil, List.replicate, List.cons_append, List.nil_append, List.append_nil, List.getElem?_cons_zero, List.getElem?_cons_succ, List.set_cons_zero, List.set_cons_succ,
  subD, cmpD, truthy_non, truthy_bl, truthy_int, truthy_str, truthy_tup, truthy_lst, setT, binD, putD, mkL, mkD, bltD, lenD_str, lenD_tup, lenD_lst, lenD_scr, lenD_ref, lenM_lst, clr, Tg.slots, seqOf_t, seqOf_l, seqOf_r, lstOf_l, lstOf_r, lstM_some, metD, Mt.rcv, Mt.kind, D.isStr, known, Ty.has, Ty.isB, srcOf_t, srcOf_l, srcOf_r, srcM_lst, forS_its, compS_its, eqD_int, eqD_str, eqD_bl, res, D.isNon, intOf, intsOf, boolsOf, strsOf, bdR, Ex.isKn, sliD, revD, addL, attrD, mulOk, pow64, enumL,
  List.all_cons, List.all_nil, List.any_cons, List.any_nil, Option.bind_some, Option.map_some, Option.isSome_some, Bool.and_true, Bool.true_and, Bool.or_false, Bool.false_or, Bool.or_true, Bool.true_or, Bool.and_self, Bool.and_false, Bool.false_and, Bool.not_true, Bool.not_false, Bool.not_not, Bool.false_eq_true, decide_eq_true_eq, decide_true, decide_false, if_true, if_false, ite_true, ite_false, ↓reduceIte, ne_eq, not_true_eq_false, not_false_eq_true, and_self, and_true, true_and,
  natC2, natC3, natC4, natC5, natC6, natC7, natC8, natC9, Int.natCast_zero, Int.natCast_one, cutL_to, cutL_from, cutL_ab, cutL_all, Int.zero_add, natAbs_10, Int.reducePow, atL_nat, Int.natCast_nonneg, natGe, Int.toNat_natCast, List.getElem_cons_zero, atL_nn, Int.le_refl, Int.toNat_zero, Int.reduceLT, Int.reduceLE, Int.reduceToNat, Int.reduceNeg, Int.reduceAdd, Int.reduceMul, Int.reduceSub, Int.reduceEq, Int.reduceBNe, Int.reduceBEq, Nat.reduceAdd, Nat.reduceSub, Nat.reduceLT, Nat.reduceEqDiff, Nat.zero_add, Nat.add_zero, List.getElem?_set_self, List.set_set, List.length_set, List.length_append, Int.reduceNeg, reduceCtorEq, *])
variable {T : Tx} {c : Cl} {h : Hh} {b : Nat}
theorem belL_mem {n : Nat} : ∀ {l : List D}, D.belL n l = true ↔ ∀ d ∈ l, d.bel n = true
  | [] => by simp [D.belL]
  | d :: l => by simp [D.belL, belL_mem (l := l)]
theorem bel_perm {n : Nat} {l m : List D} (p : l.Perm m) (b : D.belL n m = true) : D.belL n l = true := by
  rw [belL_mem] at b ⊢
  exact fun d hd => b d (p.subset hd)
theorem s_mixed (H : HasTake T) (hc : At T 2 c) (hb : isBox h b) {a : D} {l : List D} (ha : seqOf h a = some l) (hl : l.length ≤ 1000) (bl : D.belL h.length l = true) :
    Rt (c.call "_law_mixed" [.ref b, a] [] [] h) fun d h' => ∃ l', d = .lst l' ∧ l'.Perm l ∧ Bx b h h' := by
  obtain ⟨c', hc', e⟩ := hc.enter (vs := [.ref b, a]) (ks := []) (ws := []) H.mixed rfl h
  have hbl := hb.lt
  rw [e]; clear e
  have ha2 := lsOf_seq ha
  simp only [f__law_mixed]
  walk_at "dy*"
  obtain ⟨h2, eh, g1, g2, g3, g4⟩ : ∃ h2, h ++ [Ob.lst l] ++ [Ob.lst []] = h2 ∧ Gr h h2 ∧ h2[h.length]? = some (.lst l) ∧ h2[h.length+1]? = some (.lst []) ∧ h2.length = h.length+2 :=
    ⟨_, rfl, by rw [List.append_assoc]; exact Gr.app, by simp, by simp, by simp⟩
  rw [eh]; clear eh
  walk_at "dy*"
  rw [kRng_nat (by omega)]
  walk_at "dy"
  obtain ⟨σ', h3, e3, v, left, found, rfl, i1, i2, i3, i4, i5, i6⟩ := for_nm (k := 4) (b := exec c' b1__law_mixed none) (l := rangeL 0 l.length) (h := h2) (σ := [some (.ref b), some a, some (.ref h.length), some (.ref (h.length + 1)), none])
   (fun i σ h3 => ∃ (v : Option D) (left found : List D), σ = [some (.ref b), some a, some (.ref h.length), some (.ref (h.length + 1)), v] ∧ GrB b h h3 ∧ h3[h.length]? = some (.lst left) ∧ h3[h.length + 1]? = some (.lst found) ∧ left.length + i = l.length ∧ (found ++ left).Perm l ∧ h3.length = h.length + 2)
    ⟨none, l, [], rfl, g1.grb hb, g2, g3, rfl, List.Perm.refl _, g4⟩ (by
      rintro i d σ h3 hi ⟨v, left, found, rfl, i1, i2, i3, i4, i5, i6⟩
      obtain ⟨rfl, hi⟩ := rangeL_get hi
      have hl0 : 0 < left.length := by omega
      obtain ⟨_, h4, e4, d, rfl, d1, d2, d3⟩ := s_take H hc' (n := left.length) i1.2.2 (by omega) (by omega)
      have j2 : h4[h.length]? = some (.lst left) := (d3.get (by omega)).trans i2
      have j3 : h4[h.length + 1]? = some (.lst found) := (d3.get (by omega)).trans i3
      have j6 : h4.length = h.length + 2 := d3.1.trans i6
      obtain ⟨y, hy⟩ : ∃ y, left[d.toNat]? = some y := ⟨_, List.getElem?_eq_getElem (by omega)⟩
      have hf : found.length < sizeL := by have := i5.length_eq; rw [List.length_append] at this; show _ < 16777216; omega
      have hne : h.length ≠ h.length + 1 := by omega
      simp only [b1__law_mixed]
      walk_at "dy*"
      rw [List.getElem?_set_ne hne, j3]
      walk_at "dy*"
      refine .nx ⟨_, _, _, rfl, ((i1.trans d3.grb).mk hbl (Nat.le_refl _)).mk hbl (Nat.le_add_right _ _), ?_, ?_, ?_, (perm_move hy).trans i5, ?_⟩
      · rw [List.getElem?_set_ne hne.symm, List.getElem?_set_self (by omega)]
      · rw [List.getElem?_set_self (by rw [List.length_set]; omega)]
      · rw [List.length_eraseIdx]; have := (List.getElem?_eq_some_iff.mp hy).1; simp only [this, if_true]; omega
      · simp only [List.length_set, j6])
  rw [rangeL_length] at i4
  have hn : left = [] := List.eq_nil_of_length_eq_zero (by omega)
  subst hn
  have hne : h.length ≠ h.length + 1 := by omega
  walk_at "dy*"
  rw [List.getElem?_set_ne hne, i3]
  walk_at "dy*"
  rw [List.append_nil] at i5
  refine .rtB hbl ((i1.mk hbl (Nat.le_refl _)).mk hbl (Nat.le_add_right _ _)) ?_ fun h1 e1 => ⟨_, rfl, i5, e1⟩
  exact bel_perm i5 bl
end Dy
end

section
set_option linter.all false
set_option maxRecDepth 100000
set_option maxHeartbeats 1000000
set_option Elab.async false
namespace Dy
open PySem
local macro_rules | `(tactic| walk_at "dy") => `(tactic| simp -implicitDefEqProofs only [eS_nil, eS_cons, eS_asg, eS_asgS, eS_asgSS, kSS0, kSS1, kSS2, kSS3, kSS4, eS_aug, eS_ex, eS_for, eS_while, eS_if, eS_ret, eS_retN, eS_raise, eS_brk, eS_cnt, eS_pass, eS_try, eS_hnil, kTry_nx, kTry_rt, kTry_bk, kTry_ct, kTry_ex, eS_hyesN, eS_hyes0, eS_hno, calmF_nx, calmF_rt, calmF_bk, calmF_ct, unas_nx, unas_rt, unas_bk, unas_ct, set_end, get_end, eS_frzv, eT, nx_then, eE_nil, eE_cons, eE_var, eE_kn, eE_kb, eE_ki, eE_ks, eE_glo, eE_bin, eE_neg, eE_cmp, eE_cmp2, eE_not, eE_and, eE_or, eE_ife, eE_tup, eE_lst, eE_call, eE_blt, eE_met, eE_isi, eE_sub, eE_sli, eE_rev, eE_lc, eE_listr, eE_rng, eE_enum, eE_zip, kZip, zipD, eE_exf, eE_ise, exM_exc, exOf_ref, kIse_1, kIse_2, kExf_word, kExf_visitor, kExf_case, kExf_row, kExf_atV, kExf_atO, kExf_atP, kExf_names, kExf_many, kExf_wordM, kExf_most, kExf_atB, kExf_name, seqP_p, seqP_t, seqP_l, seqP_r, lsOf_t, lsOf_l, lsOf_d, EC.fs, EC.leaf, eE_frz,
  varM_some, kCons, kCons2, kBin, kNeg, kBl, kCmp, kCmp2, kC21, kC22, kC23, kNot, kNot2, kAnd, kAnd2, kOr, kOr2, kIfe, kIfe2, kLst, kCall, kCall2, kBlt, kMet, kMet2, kIsi, kSub, kSub2, kSli, kSli1, kSli2, kRev, kLc, kLc2, kRng_1, kRng_nat, kRng_2, kEnum, kFrz, ofS_some, kAsg, kNx, kAS1, kAS2, kAS3, kAug, augM, kTru, kFor, kFor2, kIf, kRaise, frzM, frzM2, asTup,
  R.bind_ok, R.bind_ex, R.go_ok, R.go_ex, Fl.then_ex, Fl.turn_ex, Fl.then_nx, Fl.then_rt, Fl.then_bk, Fl.then_ct, Fl.turn_nx, Fl.turn_rt, Fl.turn_bk, Fl.turn_ct, R.opt_some, calm_ok, List.map_cons, List.map_nil, List.length_cons, List.length_nil, List.replicate, List.cons_append, List.nil_append, List.append_nil, List.getElem?_cons_zero, List.getElem?_cons_succ, List.set_cons_zero, List.set_cons_succ,
  subD, cmpD, truthy_non, truthy_bl, truthy_int, truthy_str, truthy_tup, truthy_lst, setT, binD, putD, mkL, mkD, bltD, lenD_str, lenD_tup, lenD_lst, lenD_scr, lenD_ref, lenM_lst, clr, Tg.slots, seqOf_t, seqOf_l, seqOf_r, lstOf_l, lstOf_r, lstM_some, metD, Mt.rcv, Mt.kind, D.isStr, known, Ty.has, Ty.isB, srcOf_t, srcOf_l, srcOf_r, srcM_lst, forS_its, compS_its, eqD_int, eqD_str, eqD_bl, res, D.isNon, intOf, intsOf, boolsOf, strsOf, bdR, Ex.isKn, sliD, revD, addL, attrD, mulOk, pow64, enumL,
  List.all_cons, List.all_nil, List.any_cons, List.any_nil, Option.bind_some, Option.map_some, Option.isSome_some, Bool.and_true, Bool.true_and, Bool.or_false, Bool.false_or, Bool.or_true, Bool.true_or, Bool.and_self, Bool.and_false, Bool.false_and, Bool.not_true, Bool.not_false, Bool.not_not, Bool.false_eq_true, decide_eq_true_eq, decide_true, decide_false, if_true, if_false, ite_true, ite_false, ↓reduceIte, ne_eq, not_true_eq_false, not_false_eq_true, and_self, and_true, true_and,
  natC2, natC3, natC4, natC5, natC6, natC7, natC8, natC9, Int.natCast_zero, Int.natCast_one, cutL_to, cutL_from, cutL_ab, cutL_all, Int.zero_add, natAbs_10, Int.reducePow, atL_nat, Int.natCast_nonneg, natGe, Int.toNat_natCast, List.getElem_cons_zero, atL_nn, Int.le_refl, Int.toNat_zero, Int.reduceLT, Int.reduceLE, Int.reduceToNat, Int.reduceNeg, Int.reduceAdd, Int.reduceMul, Int.reduceSub, Int.reduceEq, Int.reduceBNe, Int.reduceBEq, Nat.reduceAdd, Nat.reduceSub, Nat.reduceLT, Nat.reduceEqDiff, Nat.zero_add, Nat.add_zero, List.getElem?_set_self, List.set_set, List.length_set, List.length_append, Int.reduceNeg, reduceCtorEq])
local macro_rules | `(tactic| walk_at "dy*") => `(tactic| simp -implicitDefEqProofs only [eS_nil, eS_cons, eS_asg, eS_asgS, eS_asgSS, kSS0, kSS1, kSS2, kSS3, kSS4, eS_aug, eS_ex, eS_for, eS_while, eS_if, eS_ret, eS_retN, eS_raise, eS_brk, eS_cnt, eS_pass, eS_try, eS_hnil, kTry_nx, kTry_rt, kTry_bk, kTry_ct, kTry_ex, eS_hyesN, eS_hyes0, eS_hno, calmF_nx, calmF_rt, calmF_bk, calmF_ct, unas_nx, unas_rt, unas_bk, unas_ct, set_end, get_end, eS_frzv, eT, nx_then, eE_nil, eE_cons, eE_var, eE_kn, eE_kb, eE_ki, eE_ks, eE_glo, eE_bin, eE_neg, eE_cmp, eE_cmp2, eE_not, eE_and, eE_or, eE_ife, eE_tup, eE_lst, eE_call, eE_blt, eE_met, eE_isi, eE_sub, eE_sli, eE_rev, eE_lc, eE_listr, eE_rng, eE_enum, eE_zip, kZip, zipD, eE_exf, eE_ise, exM_exc, exOf_ref, kIse_1, kIse_2, kExf_word, kExf_visitor, kExf_case, kExf_row, kExf_atV, kExf_atO, kExf_atP, kExf_names, kExf_many, kExf_wordM, kExf_most, kExf_atB, kExf_name, seqP_p, seqP_t, seqP_l, seqP_r, lsOf_t, lsOf_l, lsOf_d, EC.fs, EC.leaf, eE_frz,
  varM_some, kCons, kCons2, kBin, kNeg, kBl, kCmp, kCmp2, kC21, kC22, kC23, kNot, kNot2, kAnd, kAnd2, kOr, kOr2, kIfe, kIfe2, kLst, kCall, kCall2, kBlt, kMet, kMet2, kIsi, kSub, kSub2, kSli, kSli1, kSli2, kRev, kLc, kLc2, kRng_1, kRng_nat, kRng_2, kEnum, kFrz, ofS_some, kAsg, kNx, kAS1, kAS2, kAS3, kAug, augM, kTru, kFor, kFor2, kIf, kRaise, frzM, frzM2, asTup,
  R.bind_ok, R.bind_ex, R.go_ok, R.go_ex, Fl.then_ex, Fl.turn_ex, Fl.then_nx, Fl.then_rt, Fl.then_bk, Fl.then_ct, Fl.turn_nx, Fl.turn_rt, Fl.turn_bk, Fl.turn_ct, R.opt_some, calm_ok, List.map_cons, List.map_nil, List.length_cons, List.length_nil, List.replicate, List.cons_append, List.nil_append, List.append_nil, List.getElem?_cons_zero, List.getElem?_cons_succ, List.set_cons_zero, List.set_cons_succ,
  subD, cmpD, truthy_non, truthy_bl, truthy_int, truthy_str, truthy_tup, truthy_lst, setT, binD, putD, mkL, mkD, bltD, lenD_str, lenD_tup, lenD_lst, lenD_scr, lenD_ref, lenM_lst, clr, Tg.slots, seqOf_t, seqOf_l, seqOf_r, lstOf_l, lstOf_r, lstM_some, metD, Mt.rcv, Mt.kind, D.isStr, known, Ty.has, Ty.isB, srcOf_t, srcOf_l, srcOf_r, srcM_lst, forS_its, compS_its, eqD_int, eqD_str, eqD_bl, res, D.isNon, intOf, intsOf, boolsOf, strsOf, bdR, Ex.isKn, sliD, revD, addL, attrD, mulOk, pow64, enumL,
  List.all_cons, List.all_nil, List.any_cons, List.any_nil, Option.bind_some, Option.map_some, Option.isSome_some, Bool.and_true, Bool.true_and, Bool.or_false, Bool.false_or, Bool.or_true, Bool.true_or, Bool.and_self, Bool.and_false, Bool.false_and, Bool.not_true, Bool.not_false, Bool.not_not, Bool.false_eq_true, decide_eq_true_eq, decide_true, decide_false, if_true, if_false, ite_true, ite_false, ↓reduceIte, ne_eq, not_true_eq_false, not_false_eq_true, and_self, and_true, true_and,
  natC2, natC3, natC4, natC5, natC6, natC7, natC8, natC9, Int.natCast_zero, Int.natCast_one, cutL_to, cutL_from, cutL_ab, cutL_all, Int.zero_add, natAbs_10, Int.reducePow, atL_nat, Int.natCast_nonneg, natGe, Int.toNat_natCast, List.getElem_cons_zero, atL_nn, Int.le_refl, Int.toNat_zero, Int.reduceLT, Int.reduceLE, Int.reduceToNat, Int.reduceNeg, Int.reduceAdd, Int.reduceMul, Int.reduceSub, Int.reduceEq, Int.reduceBNe, Int.reduceBEq, Nat.reduceAdd, Nat.reduceSub, Nat.reduceLT, Nat.reduceEqDiff, Nat.zero_add, Nat.add_zero, List.getElem?_set_self, List.set_set, List.length_set, List.length_append, Int.reduceNeg, reduceCtorEq, *])
variable {T : Tx} {c : Cl} {h : Hh} {b : Nat}
theorem s_box (H : T.fn "_law_box" = some f__law_box) (hc : At T 1 c) {ns : List Int} {k : Nat} (hk : k < 1000) :
    Rt (c.call "_law_box" [.scr ns, .int k] [] [] h) fun d h' => d = .ref h.length ∧ Gr h h' ∧ isBox h' h.length ∧ h'.length = h.length + 1 := by
  obtain ⟨c', hc', e⟩ := hc.enter (vs := [.scr ns, .int k]) (ks := []) (ws := []) H rfl h
  rw [e]; clear e
  have rest : ∀ cell : Int, Rt (leave h (exec c' f__law_box.body.tl.tl none [some (.scr ns), some (.int k), some (.int cell), none] h)) fun d h' => d = .ref h.length ∧ Gr h h' ∧ isBox h' h.length ∧ h'.length = h.length + 1 := by
    intro cell
    simp only [f__law_box, St.tl]
    by_cases h1 : 1000000000000000000 ≤ cell
    · walk_at "dy*"
      exact ⟨_, _, leave_new (by simp [D.bel]), rfl, Gr.app, ⟨_, _, _, by rw [List.getElem?_append_right (Nat.le_refl _), Nat.sub_self]; rfl⟩, by simp⟩
    · walk_at "dy*"
      exact ⟨_, _, leave_new (by simp [D.bel]), rfl, Gr.app, ⟨_, _, _, by rw [List.getElem?_append_right (Nat.le_refl _), Nat.sub_self]; rfl⟩, by simp⟩
  have eb : f__law_box.body = .cons f__law_box.body.hd (.cons f__law_box.body.tl.hd f__law_box.body.tl.tl) := rfl
  rw [eb]
  generalize f__law_box.body.tl.tl = K at rest ⊢
  simp only [f__law_box, St.hd, St.tl]
  by_cases h1 : (k : Int) < (ns.length : Int)
  · have h2 : ns[k]? = some ns[k] := List.getElem?_eq_getElem (by omega)
    walk_at "dy*"
  · by_cases h2 : 0 < (ns.length : Int)
    · have h3 : ((k : Int) % (ns.length : Int)).toNat < ns.length := by
        have := Int.emod_lt_of_pos (k : Int) h2
        have := Int.emod_nonneg (k : Int) (b := ns.length) (by omega)
        omega
      have h4 : atL ns ((k : Int) % (ns.length : Int)) = some ns[((k : Int) % (ns.length : Int)).toNat] := by
        rw [atL_nn (Int.emod_nonneg _ (by omega))]
        exact List.getElem?_eq_getElem h3
      walk_at "dy*"
    · walk_at "dy*"
theorem s_takeN (H : HasTake T) (hc : At T 1 c) {n : Int} (hb : isBox h b) (hn : 0 < n) (hn2 : n < 1073741824) : Rt (c.call "_law_take" [.ref b, .int n] [] [] h) fun d h' => ∃ k : Nat, d = .int k ∧ (k : Int) < n ∧ Bx b h h' :=
  (s_take H hc hb hn hn2).mono fun d h' ⟨i, e, i0, i1, g⟩ => ⟨i.toNat, by rw [e, Int.toNat_of_nonneg i0], by omega, g⟩
end Dy
end

section
set_option linter.all false
set_option maxRecDepth 100000
set_option maxHeartbeats 1000000
set_option Elab.async false
namespace Dy
open PySem
local macro_rules | `(tactic| walk_at "dy") => `(tactic| simp -implicitDefEqProofs only [eS_nil, eS_cons, eS_asg, eS_asgS, eS_asgSS, kSS0, kSS1, kSS2, kSS3, kSS4, eS_aug, eS_ex, eS_for, eS_while, eS_if, eS_ret, eS_retN, eS_raise, eS_brk, eS_cnt, eS_pass, eS_try, eS_hnil, kTry_nx, kTry_rt, kTry_bk, kTry_ct, kTry_ex, eS_hyesN, eS_hyes0, eS_hno, calmF_nx, calmF_rt, calmF_bk, calmF_ct, unas_nx, unas_rt, unas_bk, unas_ct, set_end, get_end, eS_frzv, eT, nx_then, eE_nil, eE_cons, eE_var, eE_kn, eE_kb, eE_ki, eE_ks, eE_glo, eE_bin, eE_neg, eE_cmp, eE_cmp2, eE_not, eE_and, eE_or, eE_ife, eE_tup, eE_lst, eE_call, eE_blt, eE_met, eE_isi, eE_sub, eE_sli, eE_rev, eE_lc, eE_listr, eE_rng, eE_enum, eE_zip, kZip, zipD, eE_exf, eE_ise, exM_exc, exOf_ref, kIse_1, kIse_2, kExf_word, kExf_visitor, kExf_case, kExf_row, kExf_atV, kExf_atO, kExf_atP, kExf_names, kExf_many, kExf_wordM, kExf_most, kExf_atB, kExf_name, seqP_p, seqP_t, seqP_l, seqP_r, lsOf_t, lsOf_l, lsOf_d, EC.fs, EC.leaf, eE_frz,
  varM_some, kCons, kCons2, kBin, kNeg, kBl, kCmp, kCmp2, kC21, kC22, kC23, kNot, kNot2, kAnd, kAnd2, kOr, kOr2, kIfe, kIfe2, kLst, kCall, kCall2, kBlt, kMet, kMet2, kIsi, kSub, kSub2, kSli, kSli1, kSli2, kRev, kLc, kLc2, kRng_1, kRng_nat, kRng_2, kEnum, kFrz, ofS_some, kAsg, kNx, kAS1, kAS2, kAS3, kAug, augM, kTru, kFor, kFor2, kIf, kRaise, frzM, frzM2, asTup,
  R.bind_ok, R.bind_ex, R.go_ok, R.go_ex, Fl.then_ex, Fl.turn_ex, Fl.then_nx, Fl.then_rt, Fl.then_bk, Fl.then_ct, Fl.turn_nx, Fl.turn_rt, Fl.turn_bk, Fl.turn_ct, R.opt_some, calm_ok, List.map_cons, List.map_nil, List.length_cons, List.length_nil, List.replicate, List.cons_append, List.nil_append, List.append_nil, List.getElem?_cons_zero, List.getElem?_cons_succ, List.set_cons_zero, List.set_cons_succ,
  subD, cmpD, truthy_non, truthy_bl, truthy_int, truthy_str, truthy_tup, truthy_lst, setT, binD, putD, mkL, mkD, bltD, lenD_str, lenD_tup, lenD_lst, lenD_scr, lenD_ref, lenM_lst, clr, Tg.slots, seqOf_t, seqOf_l, seqOf_r, lstOf_l, lstOf_r, lstM_some, metD, Mt.rcv, Mt.kind, D.isStr, known, Ty.has, Ty.isB, srcOf_t, srcOf_l, srcOf_r, srcM_lst, forS_its, compS_its, eqD_int, eqD_str, eqD_bl, res, D.isNon, intOf, intsOf, boolsOf, strsOf, bdR, Ex.isKn, sliD, revD, addL, attrD, mulOk, pow64, enumL,
  List.all_cons, List.all_nil, List.any_cons, List.any_nil, Option.bind_some, Option.map_some, Option.isSome_some, Bool.and_true, Bool.true_and, Bool.or_false, Bool.false_or, Bool.or_true, Bool.true_or, Bool.and_self, Bool.and_false, Bool.false_and, Bool.not_true, Bool.not_false, Bool.not_not, Bool.false_eq_true, decide_eq_true_eq, decide_true, decide_false, if_true, if_false, ite_true, ite_false, ↓reduceIte, ne_eq, not_true_eq_false, not_false_eq_true, and_self, and_true, true_and,
  natC2, natC3, natC4, natC5, natC6, natC7, natC8, natC9, Int.natCast_zero, Int.natCast_one, cutL_to, cutL_from, cutL_ab, cutL_all, Int.zero_add, natAbs_10, Int.reducePow, atL_nat, Int.natCast_nonneg, natGe, Int.toNat_natCast, List.getElem_cons_zero, atL_nn, Int.le_refl, Int.toNat_zero, Int.reduceLT, Int.reduceLE, Int.reduceToNat, Int.reduceNeg, Int.reduceAdd, Int.reduceMul, Int.reduceSub, Int.reduceEq, Int.reduceBNe, Int.reduceBEq, Nat.reduceAdd, Nat.reduceSub, Nat.reduceLT, Nat.reduceEqDiff, Nat.zero_add, Nat.add_zero, List.getElem?_set_self, List.set_set, List.length_set, List.length_append, Int.reduceNeg, reduceCtorEq])
local macro_rules | `(tactic| walk_at "dy*") => `(tactic| simp -implicitDefEqProofs only [eS_nil, eS_cons, eS_asg, eS_asgS, eS_asgSS, kSS0, kSS1, kSS2, kSS3, kSS4, eS_aug, eS_ex, eS_for, eS_while, eS_if, eS_ret, eS_retN, eS_raise, eS_brk, eS_cnt, eS_pass, eS_try, eS_hnil, kTry_nx, kTry_rt, kTry_bk, kTry_ct, kTry_ex, eS_hyesN, eS_hyes0, eS_hno, calmF_nx, calmF_rt, calmF_bk, calmF_ct, unas_nx, unas_rt, unas_bk, unas_ct, set_end, get_end, eS_frzv, eT, nx_then, eE_nil, eE_cons, eE_var, eE_kn, eE_kb, eE_ki, eE_ks, eE_glo, eE_bin, eE_neg, eE_cmp, eE_cmp2, eE_not, eE_and, eE_or, eE_ife, eE_tup, eE_lst, eE_call, eE_blt, eE_met, eE_isi, eE_sub, eE_sli, eE_rev, eE_lc, eE_listr, eE_rng, eE_enum, eE_zip, kZip, zipD, eE_exf, eE_ise, exM_exc, exOf_ref, kIse_1, kIse_2, kExf_word, kExf_visitor, kExf_case, kExf_row, kExf_atV, kExf_atO, kExf_atP, kExf_names, kExf_many, kExf_wordM, kExf_most, kExf_atB, kExf_name, seqP_p, seqP_t, seqP_l, seqP_r, lsOf_t, lsOf_l, lsOf_d, EC.fs, EC.leaf, eE_frz,
  varM_some, kCons, kCons2, kBin, kNeg, kBl, kCmp, kCmp2, kC21, kC22, kC23, kNot, kNot2, kAnd, kAnd2, kOr, kOr2, kIfe, kIfe2, kLst, kCall, kCall2, kBlt, kMet, kMet2, kIsi, kSub, kSub2, kSli, kSli1, kSli2, kRev, kLc, kLc2, kRng_1, kRng_nat, kRng_2, kEnum, kFrz, ofS_some, kAsg, kNx, kAS1, kAS2, kAS3, kAug, augM, kTru, kFor, kFor2, kIf, kRaise, frzM, frzM2, asTup,
  R.bind_ok, R.bind_ex, R.go_ok, R.go_ex, Fl.then_ex, Fl.turn_ex, Fl.then_nx, Fl.then_rt, Fl.then_bk, Fl.then_ct, Fl.turn_nx, Fl.turn_rt, Fl.turn_bk, Fl.turn_ct, R.opt_some, calm_ok, List.map_cons, List.map_nil, List.length_cons, List.length_nil, List.replicate, List.cons_append, List.nil_append, List.append_nil, List.getElem?_cons_zero, List.getElem?_cons_succ, List.set_cons_zero, List.set_cons_succ,
  subD, cmpD, truthy_non, truthy_bl, truthy_int, truthy_str, truthy_tup, truthy_lst, setT, binD, putD, mkL, mkD, bltD, lenD_str, lenD_tup, lenD_lst, lenD_scr, lenD_ref, lenM_lst, clr, Tg.slots, seqOf_t, seqOf_l, seqOf_r, lstOf_l, lstOf_r, lstM_some, metD, Mt.rcv, Mt.kind, D.isStr, known, Ty.has, Ty.isB, srcOf_t, srcOf_l, srcOf_r, srcM_lst, forS_its, compS_its, eqD_int, eqD_str, eqD_bl, res, D.isNon, intOf, intsOf, boolsOf, strsOf, bdR, Ex.isKn, sliD, revD, addL, attrD, mulOk, pow64, enumL,
  List.all_cons, List.all_nil, List.any_cons, List.any_nil, Option.bind_some, Option.map_some, Option.isSome_some, Bool.and_true, Bool.true_and, Bool.or_false, Bool.false_or, Bool.or_true, Bool.true_or, Bool.and_self, Bool.and_false, Bool.false_and, Bool.not_true, Bool.not_false, Bool.not_not, Bool.false_eq_true, decide_eq_true_eq, decide_true, decide_false, if_true, if_false, ite_true, ite_false, ↓reduceIte, ne_eq, not_true_eq_false, not_false_eq_true, and_self, and_true, true_and,
  natC2, natC3, natC4, natC5, natC6, natC7, natC8, natC9, Int.natCast_zero, Int.natCast_one, cutL_to, cutL_from, cutL_ab, cutL_all, Int.zero_add, natAbs_10, Int.reducePow, atL_nat, Int.natCast_nonneg, natGe, Int.toNat_natCast, List.getElem_cons_zero, atL_nn, Int.le_refl, Int.toNat_zero, Int.reduceLT, Int.reduceLE, Int.reduceToNat, Int.reduceNeg, Int.reduceAdd, Int.reduceMul, Int.reduceSub, Int.reduceEq, Int.reduceBNe, Int.reduceBEq, Nat.reduceAdd, Nat.reduceSub, Nat.reduceLT, Nat.reduceEqDiff, Nat.zero_add, Nat.add_zero, List.getElem?_set_self, List.set_set, List.length_set, List.length_append, Int.reduceNeg, reduceCtorEq, *])
variable {T : Tx} {c : Cl} {h : Hh} {b : Nat}
inductive Act where
  | swap (p q : Nat) | next (p : Nat) | put (p t : Nat)
def Act.toD : Act → D
  | .swap p q => .tup [.str "swap", .int p, .int q]
  | .next p => .tup [.str "next", .int p]
  | .put p t => .tup [.str "put", .int p, .int t]
/-- an action of a day with that many things and places -/
def Act.ok (t p : Nat) : Act → Prop
  | .swap i j => i < p ∧ j < p ∧ i ≠ j
  | .next i => i < p
  | .put i x => i < p ∧ x < t
structure HasAct (T : Tx) : Prop extends HasTake T where
  action : T.fn "_law_action" = some f__law_action
theorem s_action (H : HasAct T) (hc : At T 2 c) (hb : isBox h b) {t p : Nat} (ht : 0 < t) (ht2 : t < 1000) (hp : 0 < p) (hp2 : p < 1000) :
    Rt (c.call "_law_action" [.ref b, .int t, .int p] [] [] h) fun d h' => ∃ a : Act, d = a.toD ∧ a.ok t p ∧ Bx b h h' := by
  obtain ⟨c', hc', e⟩ := hc.enter (vs := [.ref b, .int t, .int p]) (ks := []) (ws := []) H.action rfl h
  have hbl := hb.lt
  rw [e]; clear e
  obtain ⟨_, h1, e1, i, rfl, i1, g1⟩ := s_takeN H.toHasTake hc' (n := p) hb (by omega) (by omega)
  obtain ⟨_, h2, e2, f, rfl, f1, g2⟩ := s_takeN H.toHasTake hc' (n := 4) g1.2.2 (by omega) (by omega)
  simp only [f__law_action]
  by_cases f0 : (f : Int) = 0
  · by_cases p0 : 1 < (p : Int)
    · obtain ⟨_, h3, e3, j, rfl, j1, g3⟩ := s_takeN H.toHasTake hc' (n := (p : Int) - 1) g2.2.2 (by omega) (by omega)
      have p1 : 0 < (p : Int) := by omega
      have hm : ((i : Int) + 1 + (j : Int)) % (p : Int) = ((i + 1 + j) % p : Nat) := by simp
      have hlt : (i + 1 + j) % p < p := Nat.mod_lt _ hp
      have hne : i ≠ (i + 1 + j) % p := by
        by_cases q : i + 1 + j < p
        · rw [Nat.mod_eq_of_lt q]; omega
        · rw [Nat.mod_eq_sub_mod (by omega), Nat.mod_eq_of_lt (by omega)]; omega
      walk_at "dy*"
      exact .rtB hbl (g1.trans (g2.trans g3)).grb rfl fun h' e' => ⟨.swap i ((i + 1 + j) % p), rfl, ⟨by omega, hlt, hne⟩, e'⟩
    · obtain ⟨_, h3, e3, j, rfl, j1, g3⟩ := s_takeN H.toHasTake hc' (n := (t : Int)) g2.2.2 (by omega) (by omega)
      walk_at "dy*"
      exact .rtB hbl (g1.trans (g2.trans g3)).grb rfl fun h' e' => ⟨.put i j, rfl, ⟨by omega, by omega⟩, e'⟩
  · by_cases f2 : (f : Int) = 1
    · walk_at "dy*"
      exact .rtB hbl (g1.trans g2).grb rfl fun h' e' => ⟨.next i, rfl, by simp only [Act.ok]; omega, e'⟩
    · obtain ⟨_, h3, e3, j, rfl, j1, g3⟩ := s_takeN H.toHasTake hc' (n := (t : Int)) g2.2.2 (by omega) (by omega)
      walk_at "dy*"
      exact .rtB hbl (g1.trans (g2.trans g3)).grb rfl fun h' e' => ⟨.put i j, rfl, ⟨by omega, by omega⟩, e'⟩
end Dy
end

section
set_option linter.all false
set_option maxRecDepth 100000
set_option maxHeartbeats 1000000
set_option Elab.async false
namespace Dy
open PySem
local macro_rules | `(tactic| walk_at "dy") => `(tactic| simp -implicitDefEqProofs only [eS_nil, eS_cons, eS_asg, eS_asgS, eS_asgSS, kSS0, kSS1, kSS2, kSS3, kSS4, eS_aug, eS_ex, eS_for, eS_while, eS_if, eS_ret, eS_retN, eS_raise, eS_brk, eS_cnt, eS_pass, eS_try, eS_hnil, kTry_nx, kTry_rt, kTry_bk, kTry_ct, kTry_ex, eS_hyesN, eS_hyes0, eS_hno, calmF_nx, calmF_rt, calmF_bk, calmF_ct, unas_nx, unas_rt, unas_bk, unas_ct, set_end, get_end, eS_frzv, eT, nx_then, eE_nil, eE_cons, eE_var, eE_kn, eE_kb, eE_ki, eE_ks, eE_glo, eE_bin, eE_neg, eE_cmp, eE_cmp2, eE_not, eE_and, eE_or, eE_ife, eE_tup, eE_lst, eE_call, eE_blt, eE_met, eE_isi, eE_sub, eE_sli, eE_rev, eE_lc, eE_listr, eE_rng, eE_enum, eE_zip, kZip, zipD, eE_exf, eE_ise, exM_exc, exOf_ref, kIse_1, kIse_2, kExf_word, kExf_visitor, kExf_case, kExf_row, kExf_atV, kExf_atO, kExf_atP, kExf_names, kExf_many, kExf_wordM, kExf_most, kExf_atB, kExf_name, seqP_p, seqP_t, seqP_l, seqP_r, lsOf_t, lsOf_l, lsOf_d, EC.fs, EC.leaf, eE_frz,
  varM_some, kCons, kCons2, kBin, kNeg, kBl, kCmp, kCmp2, kC21, kC22, kC23, kNot, kNot2, kAnd, kAnd2, kOr, kOr2, kIfe, kIfe2, kLst, kCall, kCall2, kBlt, kMet, kMet2, kIsi, kSub, kSub2, kSli, kSli1, kSli2, kRev, kLc, kLc2, kRng_1, kRng_nat, kRng_2, kEnum, kFrz, ofS_some, kAsg, kNx, kAS1, kAS2, kAS3, kAug, augM, kTru, kFor, kFor2, kIf, kRaise, frzM, frzM2, asTup,
  R.bind_ok, R.bind_ex, R.go_ok, R.go_ex, Fl.then_ex, Fl.turn_ex, Fl.then_nx, Fl.then_rt, Fl.then_bk, Fl.then_ct, Fl.turn_nx, Fl.turn_rt, Fl.turn_bk, Fl.turn_ct, R.opt_some, calm_ok, List.map_cons, List.map_nil, List.length_cons, List.length_nil, List.replicate, List.cons_append, List.nil_append, List.append_nil, List.getElem?_cons_zero, List.getElem?_cons_succ, List.set_cons_zero, List.set_cons_succ,
  subD, cmpD, truthy_non, truthy_bl, truthy_int, truthy_str, truthy_tup, truthy_lst, setT, binD, putD, mkL, mkD, bltD, lenD_str, lenD_tup, lenD_lst, lenD_scr, lenD_ref, lenM_lst, clr, Tg.slots, seqOf_t, seqOf_l, seqOf_r, lstOf_l, lstOf_r, lstM_some, metD, Mt.rcv, Mt.kind, D.isStr, known, Ty.has, Ty.isB, srcOf_t, srcOf_l, srcOf_r, srcM_lst, forS_its, compS_its, eqD_int, eqD_str, eqD_bl, res, D.isNon, intOf, intsOf, boolsOf, strsOf, bdR, Ex.isKn, sliD, revD, addL, attrD, mulOk, pow64, enumL,
  List.all_cons, List.all_nil, List.any_cons, List.any_nil, Option.bind_some, Option.map_some, Option.isSome_some, Bool.and_true, Bool.true_and, Bool.or_false, Bool.false_or, Bool.or_true, Bool.true_or, Bool.and_self, Bool.and_false, Bool.false_and, Bool.not_true, Bool.not_false, Bool.not_not, Bool.false_eq_true, decide_eq_true_eq, decide_true, decide_false, if_true, if_false, ite_true, ite_false, ↓reduceIte, ne_eq, not_true_eq_false, not_false_eq_true, and_self, and_true, true_and,
  natC2, natC3, natC4, natC5, natC6, natC7, natC8, natC9, Int.natCast_zero, Int.natCast_one, cutL_to, cutL_from, cutL_ab, cutL_all, Int.zero_add, natAbs_10, Int.reducePow, atL_nat, Int.natCast_nonneg, natGe, Int.toNat_natCast, List.getElem_cons_zero, atL_nn, Int.le_refl, Int.toNat_zero, Int.reduceLT, Int.reduceLE, Int.reduceToNat, Int.reduceNeg, Int.reduceAdd, Int.reduceMul, Int.reduceSub, Int.reduceEq, Int.reduceBNe, Int.reduceBEq, Nat.reduceAdd, Nat.reduceSub, Nat.reduceLT, Nat.reduceEqDiff, Nat.zero_add, Nat.add_zero, List.getElem?_set_self, List.set_set, List.length_set, List.length_append, Int.reduceNeg, reduceCtorEq])
local macro_rules | `(tactic| walk_at "dy*") => `(tactic| simp -implicitDefEqProofs only [eS_nil, eS_cons, eS_asg, eS_asgS, eS_asgSS, kSS0, kSS1, kSS2, kSS3, kSS4, eS_aug, eS_ex, eS_for, eS_while, eS_if, eS_ret, eS_retN, eS_raise, eS_brk, eS_cnt, eS_pass, eS_try, eS_hnil, kTry_nx, kTry_rt, kTry_bk, kTry_ct, kTry_ex, eS_hyesN, eS_hyes0, eS_hno, calmF_nx, calmF_rt, calmF_bk, calmF_ct, unas_nx, unas_rt, unas_bk, unas_ct, set_end, get_end, eS_frzv, eT, nx_then, eE_nil, eE_cons, eE_var, eE_kn, eE_kb, eE_ki, eE_ks, eE_glo, eE_bin, eE_neg, eE_cmp, eE_cmp2, eE_not, eE_and, eE_or, eE_ife, eE_tup, eE_lst, eE_call, eE_blt, eE_met, eE_isi, eE_sub, eE_sli, eE_rev, eE_lc, eE_listr, eE_rng, eE_enum, eE_zip, kZip, zipD, eE_exf, eE_ise, exM_exc, exOf_ref, kIse_1, kIse_2, kExf_word, kExf_visitor, kExf_case, kExf_row, kExf_atV, kExf_atO, kExf_atP, kExf_names, kExf_many, kExf_wordM, kExf_most, kExf_atB, kExf_name, seqP_p, seqP_t, seqP_l, seqP_r, lsOf_t, lsOf_l, lsOf_d, EC.fs, EC.leaf, eE_frz,
  varM_some, kCons, kCons2, kBin, kNeg, kBl, kCmp, kCmp2, kC21, kC22, kC23, kNot, kNot2, kAnd, kAnd2, kOr, kOr2, kIfe, kIfe2, kLst, kCall, kCall2, kBlt, kMet, kMet2, kIsi, kSub, kSub2, kSli, kSli1, kSli2, kRev, kLc, kLc2, kRng_1, kRng_nat, kRng_2, kEnum, kFrz, ofS_some, kAsg, kNx, kAS1, kAS2, kAS3, kAug, augM, kTru, kFor, kFor2, kIf, kRaise, frzM, frzM2, asTup,
  R.bind_ok, R.bind_ex, R.go_ok, R.go_ex, Fl.then_ex, Fl.turn_ex, Fl.then_nx, Fl.then_rt, Fl.then_bk, Fl.then_ct, Fl.turn_nx, Fl.turn_rt, Fl.turn_bk, Fl.turn_ct, R.opt_some, calm_ok, List.map_cons, List.map_nil, List.length_cons, List.length_nil, List.replicate, List.cons_append, List.nil_append, List.append_nil, List.getElem?_cons_zero, List.getElem?_cons_succ, List.set_cons_zero, List.set_cons_succ,
  subD, cmpD, truthy_non, truthy_bl, truthy_int, truthy_str, truthy_tup, truthy_lst, setT, binD, putD, mkL, mkD, bltD, lenD_str, lenD_tup, lenD_lst, lenD_scr, lenD_ref, lenM_lst, clr, Tg.slots, seqOf_t, seqOf_l, seqOf_r, lstOf_l, lstOf_r, lstM_some, metD, Mt.rcv, Mt.kind, D.isStr, known, Ty.has, Ty.isB, srcOf_t, srcOf_l, srcOf_r, srcM_lst, forS_its, compS_its, eqD_int, eqD_str, eqD_bl, res, D.isNon, intOf, intsOf, boolsOf, strsOf, bdR, Ex.isKn, sliD, revD, addL, attrD, mulOk, pow64, enumL,
  List.all_cons, List.all_nil, List.any_cons, List.any_nil, Option.bind_some, Option.map_some, Option.isSome_some, Bool.and_true, Bool.true_and, Bool.or_false, Bool.false_or, Bool.or_true, Bool.true_or, Bool.and_self, Bool.and_false, Bool.false_and, Bool.not_true, Bool.not_false, Bool.not_not, Bool.false_eq_true, decide_eq_true_eq, decide_true, decide_false, if_true, if_false, ite_true, ite_false, ↓reduceIte, ne_eq, not_true_eq_false, not_false_eq_true, and_self, and_true, true_and,
  natC2, natC3, natC4, natC5, natC6, natC7, natC8, natC9, Int.natCast_zero, Int.natCast_one, cutL_to, cutL_from, cutL_ab, cutL_all, Int.zero_add, natAbs_10, Int.reducePow, atL_nat, Int.natCast_nonneg, natGe, Int.toNat_natCast, List.getElem_cons_zero, atL_nn, Int.le_refl, Int.toNat_zero, Int.reduceLT, Int.reduceLE, Int.reduceToNat, Int.reduceNeg, Int.reduceAdd, Int.reduceMul, Int.reduceSub, Int.reduceEq, Int.reduceBNe, Int.reduceBEq, Nat.reduceAdd, Nat.reduceSub, Nat.reduceLT, Nat.reduceEqDiff, Nat.zero_add, Nat.add_zero, List.getElem?_set_self, List.set_set, List.length_set, List.length_append, Int.reduceNeg, reduceCtorEq, *])
variable {T : Tx} {c : Cl} {h : Hh} {b : Nat}
structure Case where
  conds : List (Nat × Nat)
  acts : List Act
def Case.toD (k : Case) : D := .tup [.tup (k.conds.map prD), .tup (k.acts.map Act.toD)]
structure Case.ok (t p : Nat) (k : Case) : Prop where
  conds : ∀ x ∈ k.conds, x.1 < p ∧ x.2 < t
  sorted : k.conds.Pairwise fun x y => x.1 < y.1
  acts : ∀ a ∈ k.acts, a.ok t p
  few : k.conds.length ≤ 6 ∧ k.acts.length ≤ 6
structure HasCase (T : Tx) : Prop extends HasAct T where
  case : T.fn "_law_case" = some f__law_case
theorem pick4 {x0 x1 x2 x3 : D} {i : Nat} (h : (i : Int) < 4) : ∃ y, [x0, x1, x2, x3][i]? = some y ∧ (y = x0 ∨ y = x1 ∨ y = x2 ∨ y = x3) := by
  match i, h with
  | 0, _ => exact ⟨_, rfl, .inl rfl⟩
  | 1, _ => exact ⟨_, rfl, .inr (.inl rfl)⟩
  | 2, _ => exact ⟨_, rfl, .inr (.inr (.inl rfl))⟩
  | 3, _ => exact ⟨_, rfl, .inr (.inr (.inr rfl))⟩
  | n + 4, h => omega
theorem s_case (H : HasCase T) (hc : At T 3 c) (hb : isBox h b) {t p : Nat} (ht : 0 < t) (ht2 : t < 1000) (hp : 0 < p) (hp2 : p < 1000) :
    Rt (c.call "_law_case" [.ref b, .int t, .int p] [] [] h) fun d h' => ∃ k : Case, d = k.toD ∧ k.ok t p ∧ Bx b h h' := by
  obtain ⟨c', hc', e⟩ := hc.enter (vs := [.ref b, .int t, .int p]) (ks := []) (ws := []) H.case rfl h
  have hbl := hb.lt
  have hc1 : At T 1 c' := hc'.mono (by omega)
  rw [e]; clear e
  obtain ⟨_, h1, e1, w0, rfl, w1, g1⟩ := s_takeN H.toHasTake hc1 (n := 12) hb (by omega) (by omega)
  have g1l := g1.1
  obtain ⟨w, hw, ew⟩ : ∃ w : Nat, (w = 1 ∨ w = 3) ∧ atL [D.int 1, D.int 3] (if (w0 : Int) = 0 then 1 else 0) = some (.int w) := by
    by_cases q : (w0 : Int) = 0
    · exact ⟨3, .inr rfl, by rw [if_pos q]; rfl⟩
    · exact ⟨1, .inl rfl, by rw [if_neg q]; rfl⟩
  simp only [f__law_case]
  have hp3 : (p : Int) ≤ 1000000 := by omega
  walk_at "dy*"
  rw [rangeL_nat]
  obtain ⟨h2, eh, q1, q2, q3, q4⟩ : ∃ h2, h1 ++ [Ob.lst ((List.range p).map nD)] ++ [Ob.lst []] = h2 ∧ Gr h1 h2 ∧ h2[h.length]? = some (.lst ((List.range p).map nD)) ∧ h2[h.length+1]? = some (.lst []) ∧ h2.length = h.length+2 :=
    ⟨_, rfl, by rw [List.append_assoc]; exact Gr.app, by rw [← g1l]; simp, by rw [← g1l]; simp, by simp [g1l]⟩
  rw [eh]; clear eh
  obtain ⟨_, h3, e3, j, rfl, j1, g3⟩ := s_takeN H.toHasTake hc1 (n := 4) (h := h2) (q1.box g1.2.2) (by omega) (by omega)
  obtain ⟨m, hm, em⟩ : ∃ m : Nat, m ≤ 2 ∧ [D.int 0, D.int 1, D.int 1, D.int 2][j]? = some (.int m) := by
    obtain ⟨y, ey, o⟩ := pick4 (x0 := .int 0) (x1 := .int 1) (x2 := .int 1) (x3 := .int 2) j1
    rcases o with rfl | rfl | rfl | rfl
    · exact ⟨0, by omega, ey⟩
    · exact ⟨1, by omega, ey⟩
    · exact ⟨1, by omega, ey⟩
    · exact ⟨2, by omega, ey⟩
  have hmw : m * w ≤ 6 := by rcases hw with rfl | rfl <;> omega
  have hmw2 : (m : Int) * (w : Int) = (m * w : Nat) := by simp
  have hm2 : (m : Int) < 18446744073709551616 := by omega
  have hmw3 : ((m * w : Nat) : Int) ≤ 1000000 := by omega
  walk_at "dy*"
  obtain ⟨σ', h5, e5, v, L, F, rfl, i1, i2, i3, i4, i5, i6, i7, i9, i8⟩ := for_nm (k := 6) (b := exec c' b1__law_case none) (l := rangeL 0 (m * w : Nat)) (h := h3) (σ := [some (.ref b), some (.int t), some (.int p), some (.int w), some (.ref h.length), some (.ref (h.length + 1)), none, none, none])
   (fun i σ h3 => ∃ (v : Option D) (L : List Nat) (F : List (Nat × Nat)), σ = [some (.ref b), some (.int t), some (.int p), some (.int w), some (.ref h.length), some (.ref (h.length + 1)), v, none, none] ∧ GrB b h h3 ∧ h3[h.length]? = some (.lst (L.map nD)) ∧ h3[h.length + 1]? = some (.lst (F.map prD)) ∧ (F.map Prod.fst ++ L).Nodup ∧ (∀ x ∈ L, x < p) ∧ (∀ x ∈ F, x.1 < p ∧ x.2 < t) ∧ F.length ≤ i ∧ L.length ≤ p ∧ h3.length = h.length + 2)
    ⟨none, List.range p, [], rfl, (g1.grb.trans (q1.grb g1.2.2)).trans g3.grb, (g3.get (by omega)).trans q2, (g3.get (by omega)).trans q3, by simpa using List.nodup_range, fun x hx => List.mem_range.mp hx, fun x hx => by simp at hx, Nat.le_refl _, by simp, g3.1.trans q4⟩ (by
      rintro i d σ h3 hi ⟨v, L, F, rfl, i1, i2, i3, i4, i5, i6, i7, i9, i8⟩
      obtain ⟨rfl, hi⟩ := rangeL_get hi
      have hne : h.length ≠ h.length + 1 := by omega
      have en := eqD_refNil i2 (pyL_map (f := nD) (fun _ => rfl) L)
      simp only [b1__law_case]
      have hF : (F.map prD).length < sizeL := by rw [List.length_map]; show _ < 16777216; omega
      by_cases hL : L = []
      · subst hL
        simp only [List.map_nil, List.isEmpty_nil] at en
        walk_at "dy*"
        exact .nx ⟨_, _, _, rfl, i1, i2, i3, i4, i5, i6, by omega, i9, i8⟩
      · have hl : 0 < L.length := List.length_pos_iff.mpr hL
        have en' : eqD h3 (.ref h.length) (.lst []) = some false := by
          rw [en]
          cases L with
          | nil => exact absurd rfl hL
          | cons _ _ => rfl
        clear en
        have hlm : (L.map nD).length = L.length := List.length_map ..
        obtain ⟨_, h4, e4, d, rfl, d2, g4⟩ := s_takeN H.toHasTake hc1 (n := L.length) i1.2.2 (by omega) (by omega)
        have i1' := (i1.trans g4.grb).mk (n := h.length) (o := .lst ((L.eraseIdx d).map nD)) hbl (Nat.le_refl _)
        obtain ⟨_, h5, e5, x, rfl, x2, g5⟩ := s_takeN H.toHasTake hc1 (n := t) (h := h4.set h.length (.lst ((L.eraseIdx d).map nD))) i1'.2.2 (by omega) (by omega)
        have j2 : h4[h.length]? = some (.lst (L.map nD)) := (g4.get (by omega)).trans i2
        have hd : d < L.length := by omega
        have hy : (L.map nD)[d]? = some (nD L[d]) := by rw [List.getElem?_map, List.getElem?_eq_getElem hd]; rfl
        have he : (L.map nD).eraseIdx d = (L.eraseIdx d).map nD := map_erase _ _ _
        have hne' : h.length + 1 ≠ h.length := by omega
        have j3 : h5[h.length + 1]? = some (.lst (F.map prD)) := by rw [g5.get (by omega), List.getElem?_set_ne hne, g4.get (by omega), i3]
        walk_at "dy*"
        have i4' : ((F.map Prod.fst ++ [L[d]]) ++ L.eraseIdx d).Nodup := (perm_move (List.getElem?_eq_getElem hd)).nodup_iff.mpr i4
        have hL5 : h4.length = h.length + 2 := g4.1.trans i8
        have hL6 : h5.length = h.length + 2 := by rw [g5.1, List.length_set, hL5]
        refine .nx ⟨_, L.eraseIdx d, F ++ [(L[d], x)], rfl, (i1'.trans g5.grb).mk hbl (Nat.le_add_right _ _), ?_, ?_, ?_, ?_, ?_, ?_, ?_, ?_⟩
        · rw [List.getElem?_set_ne hne', g5.get (by omega), List.getElem?_set_self (by omega)]
        · rw [List.getElem?_set_self (by omega), List.map_append]; rfl
        · rw [List.map_append]; exact i4'
        · exact fun x hx => i5 x (List.mem_of_mem_eraseIdx hx)
        · intro y hy
          rcases List.mem_append.mp hy with hy | hy
          · exact i6 y hy
          · rw [List.mem_singleton] at hy
            subst hy
            exact ⟨i5 _ (List.getElem_mem _), by omega⟩
        · rw [List.length_append, List.length_singleton]; omega
        · rw [List.length_eraseIdx]; split <;> omega
        · simp only [List.length_set, hL6])
  rw [rangeL_length] at i7
  have hne : h.length ≠ h.length + 1 := by omega
  have i1' := (i1.mk (n := h.length) (o := .dead) hbl (Nat.le_refl _)).mk (n := h.length + 1) (o := .dead) hbl (Nat.le_add_right _ _)
  have j3 : (h5.set h.length .dead)[h.length + 1]? = some (.lst (F.map prD)) := by rw [List.getElem?_set_ne hne, i3]
  obtain ⟨_, h6, e6, y, rfl, y1, g6⟩ := s_takeN H.toHasTake hc1 (n := 4) i1'.2.2 (by omega) (by omega)
  obtain ⟨m', hm', em'⟩ : ∃ m : Nat, m ≤ 2 ∧ [D.int 1, D.int 1, D.int 2, D.int 0][y]? = some (.int m) := by
    obtain ⟨z, ez, o⟩ := pick4 (x0 := .int 1) (x1 := .int 1) (x2 := .int 2) (x3 := .int 0) y1
    rcases o with rfl | rfl | rfl | rfl
    · exact ⟨1, by omega, ez⟩
    · exact ⟨1, by omega, ez⟩
    · exact ⟨2, by omega, ez⟩
    · exact ⟨0, by omega, ez⟩
  have hmw' : m' * w ≤ 6 := by rcases hw with rfl | rfl <;> omega
  have hmw2' : (m' : Int) * (w : Int) = (m' * w : Nat) := by simp
  have hm2' : (m' : Int) < 18446744073709551616 := by omega
  have hmw3' : ((m' * w : Nat) : Int) ≤ 1000000 := by omega
  have hso := sortD_pr F
  obtain ⟨as, h7, e7, g7, n7, p7⟩ := lc_nm (c := c') (k := 6) (e := x1__law_case) (σ := [some (.ref b), some (.int t), some (.int p), some (.int w), some (.lst (L.map nD)), some (.lst (F.map prD)), v, some (.int (m' * w : Nat)), none]) (l := rangeL 0 (m' * w : Nat)) (h := h6) Act.toD (fun _ a => a.ok t p) (GrB b h) (by rw [rangeL_length]; show _ ≤ 16777216; omega) (i1'.trans g6.grb) (by
    intro i d h hi gi
    obtain ⟨_, h', e, a, rfl, ha, ga⟩ := s_action H.toHasAct hc' gi.2.2 ht ht2 hp hp2
    simp only [x1__law_case]
    walk_at "dy*"
    exact .ok ⟨a, rfl, ha, gi.trans ga.grb⟩)
  walk_at "dy*"
  refine .rtB hbl g7 ?_ fun h' e' => ⟨⟨sortP F, as⟩, rfl, ⟨fun x hx => i6 x ((sortP_perm F).subset hx), sortP_lt F (List.nodup_append.mp i4).1, fun a ha => ?_, ?_⟩, e'⟩
  · simp only [D.bel, D.belL, Bool.and_true, Bool.and_eq_true]
    exact ⟨belL_map (fun _ => rfl) _, belL_map (fun a => by cases a <;> rfl) _⟩
  · obtain ⟨i, hi, rfl⟩ := List.getElem_of_mem ha
    exact p7 i _ (List.getElem?_eq_getElem hi)
  · rw [rangeL_length] at n7
    exact ⟨by rw [(sortP_perm F).length_eq]; omega, by show as.length ≤ 6; omega⟩
theorem Case.belD {n : Nat} (k : Case) : k.toD.bel n = true := by
  simp only [Case.toD, D.bel, D.belL, Bool.and_true, Bool.and_eq_true]
  exact ⟨belL_map (fun _ => rfl) _, belL_map (fun a => by cases a <;> rfl) _⟩
end Dy
end

section
set_option linter.all false
set_option maxRecDepth 100000
set_option maxHeartbeats 1000000
set_option Elab.async false
namespace Dy
open PySem
local macro_rules | `(tactic| walk_at "dy") => `(tactic| simp -implicitDefEqProofs only [eS_nil, eS_cons, eS_asg, eS_asgS, eS_asgSS, kSS0, kSS1, kSS2, kSS3, kSS4, eS_aug, eS_ex, eS_for, eS_while, eS_if, eS_ret, eS_retN, eS_raise, eS_brk, eS_cnt, eS_pass, eS_try, eS_hnil, kTry_nx, kTry_rt, kTry_bk, kTry_ct, kTry_ex, eS_hyesN, eS_hyes0, eS_hno, calmF_nx, calmF_rt, calmF_bk, calmF_ct, unas_nx, unas_rt, unas_bk, unas_ct, set_end, get_end, eS_frzv, eT, nx_then, eE_nil, eE_cons, eE_var, eE_kn, eE_kb, eE_ki, eE_ks, eE_glo, eE_bin, eE_neg, eE_cmp, eE_cmp2, eE_not, eE_and, eE_or, eE_ife, eE_tup, eE_lst, eE_call, eE_blt, eE_met, eE_isi, eE_sub, eE_sli, eE_rev, eE_lc, eE_listr, eE_rng, eE_enum, eE_zip, kZip, zipD, eE_exf, eE_ise, exM_exc, exOf_ref, kIse_1, kIse_2, kExf_word, kExf_visitor, kExf_case, kExf_row, kExf_atV, kExf_atO, kExf_atP, kExf_names, kExf_many, kExf_wordM, kExf_most, kExf_atB, kExf_name, seqP_p, seqP_t, seqP_l, seqP_r, lsOf_t, lsOf_l, lsOf_d, EC.fs, EC.leaf, eE_frz,
  varM_some, kCons, kCons2, kBin, kNeg, kBl, kCmp, kCmp2, kC21, kC22, kC23, kNot, kNot2, kAnd, kAnd2, kOr, kOr2, kIfe, kIfe2, kLst, kCall, kCall2, kBlt, kMet, kMet2, kIsi, kSub, kSub2, kSli, kSli1, kSli2, kRev, kLc, kLc2, kRng_1, kRng_nat, kRng_2, kEnum, kFrz, ofS_some, kAsg, kNx, kAS1, kAS2, kAS3, kAug, augM, kTru, kFor, kFor2, kIf, kRaise, frzM, frzM2, asTup,
  R.bind_ok, R.bind_ex, R.go_ok, R.go_ex, Fl.then_ex, Fl.turn_ex, Fl.then_nx, Fl.then_rt, Fl.then_bk, Fl.then_ct, Fl.turn_nx, Fl.turn_rt, Fl.turn_bk, Fl.turn_ct, R.opt_some, calm_ok, List.map_cons, List.map_nil, List.length_cons, List.length_nil, List.replicate, List.cons_append, List.nil_append, List.append_nil, List.getElem?_cons_zero, List.getElem?_cons_succ, List.set_cons_zero, List.set_cons_succ,
  subD, cmpD, truthy_non, truthy_bl, truthy_int, truthy_str, truthy_tup, truthy_lst, setT, binD, putD, mkL, mkD, bltD, lenD_str, lenD_tup, lenD_lst, lenD_scr, lenD_ref, lenM_lst, clr, Tg.slots, seqOf_t, seqOf_l, seqOf_r, lstOf_l, lstOf_r, lstM_some, metD, Mt.rcv, Mt.kind, D.isStr, known, Ty.has, Ty.isB, srcOf_t, srcOf_l, srcOf_r, srcM_lst, forS_its, compS_its, eqD_int, eqD_str, eqD_bl, res, D.isNon, intOf, intsOf, boolsOf, strsOf, bdR, Ex.isKn, sliD, revD, addL, attrD, mulOk, pow64, enumL,
  List.all_cons, List.all_nil, List.any_cons, List.any_nil, Option.bind_some, Option.map_some, Option.isSome_some, Bool.and_true, Bool.true_and, Bool.or_false, Bool.false_or, Bool.or_true, Bool.true_or, Bool.and_self, Bool.and_false, Bool.false_and, Bool.not_true, Bool.not_false, Bool.not_not, Bool.false_eq_true, decide_eq_true_eq, decide_true, decide_false, if_true, if_false, ite_true, ite_false, ↓reduceIte, ne_eq, not_true_eq_false, not_false_eq_true, and_self, and_true, true_and,
  natC2, natC3, natC4, natC5, natC6, natC7, natC8, natC9, Int.natCast_zero, Int.natCast_one, cutL_to, cutL_from, cutL_ab, cutL_all, Int.zero_add, natAbs_10, Int.reducePow, atL_nat, Int.natCast_nonneg, natGe, Int.toNat_natCast, List.getElem_cons_zero, atL_nn, Int.le_refl, Int.toNat_zero, Int.reduceLT, Int.reduceLE, Int.reduceToNat, Int.reduceNeg, Int.reduceAdd, Int.reduceMul, Int.reduceSub, Int.reduceEq, Int.reduceBNe, Int.reduceBEq, Nat.reduceAdd, Nat.reduceSub, Nat.reduceLT, Nat.reduceEqDiff, Nat.zero_add, Nat.add_zero, List.getElem?_set_self, List.set_set, List.length_set, List.length_append, Int.reduceNeg, reduceCtorEq])
local macro_rules | `(tactic| walk_at "dy*") => `(tactic| simp -implicitDefEqProofs only [eS_nil, eS_cons, eS_asg, eS_asgS, eS_asgSS, kSS0, kSS1, kSS2, kSS3, kSS4, eS_aug, eS_ex, eS_for, eS_while, eS_if, eS_ret, eS_retN, eS_raise, eS_brk, eS_cnt, eS_pass, eS_try, eS_hnil, kTry_nx, kTry_rt, kTry_bk, kTry_ct, kTry_ex, eS_hyesN, eS_hyes0, eS_hno, calmF_nx, calmF_rt, calmF_bk, calmF_ct, unas_nx, unas_rt, unas_bk, unas_ct, set_end, get_end, eS_frzv, eT, nx_then, eE_nil, eE_cons, eE_var, eE_kn, eE_kb, eE_ki, eE_ks, eE_glo, eE_bin, eE_neg, eE_cmp, eE_cmp2, eE_not, eE_and, eE_or, eE_ife, eE_tup, eE_lst, eE_call, eE_blt, eE_met, eE_isi, eE_sub, eE_sli, eE_rev, eE_lc, eE_listr, eE_rng, eE_enum, eE_zip, kZip, zipD, eE_exf, eE_ise, exM_exc, exOf_ref, kIse_1, kIse_2, kExf_word, kExf_visitor, kExf_case, kExf_row, kExf_atV, kExf_atO, kExf_atP, kExf_names, kExf_many, kExf_wordM, kExf_most, kExf_atB, kExf_name, seqP_p, seqP_t, seqP_l, seqP_r, lsOf_t, lsOf_l, lsOf_d, EC.fs, EC.leaf, eE_frz,
  varM_some, kCons, kCons2, kBin, kNeg, kBl, kCmp, kCmp2, kC21, kC22, kC23, kNot, kNot2, kAnd, kAnd2, kOr, kOr2, kIfe, kIfe2, kLst, kCall, kCall2, kBlt, kMet, kMet2, kIsi, kSub, kSub2, kSli, kSli1, kSli2, kRev, kLc, kLc2, kRng_1, kRng_nat, kRng_2, kEnum, kFrz, ofS_some, kAsg, kNx, kAS1, kAS2, kAS3, kAug, augM, kTru, kFor, kFor2, kIf, kRaise, frzM, frzM2, asTup,
  R.bind_ok, R.bind_ex, R.go_ok, R.go_ex, Fl.then_ex, Fl.turn_ex, Fl.then_nx, Fl.then_rt, Fl.then_bk, Fl.then_ct, Fl.turn_nx, Fl.turn_rt, Fl.turn_bk, Fl.turn_ct, R.opt_some, calm_ok, List.map_cons, List.map_nil, List.length_cons, List.length_nil, List.replicate, List.cons_append, List.nil_append, List.append_nil, List.getElem?_cons_zero, List.getElem?_cons_succ, List.set_cons_zero, List.set_cons_succ,
  subD, cmpD, truthy_non, truthy_bl, truthy_int, truthy_str, truthy_tup, truthy_lst, setT, binD, putD, mkL, mkD, bltD, lenD_str, lenD_tup, lenD_lst, lenD_scr, lenD_ref, lenM_lst, clr, Tg.slots, seqOf_t, seqOf_l, seqOf_r, lstOf_l, lstOf_r, lstM_some, metD, Mt.rcv, Mt.kind, D.isStr, known, Ty.has, Ty.isB, srcOf_t, srcOf_l, srcOf_r, srcM_lst, forS_its, compS_its, eqD_int, eqD_str, eqD_bl, res, D.isNon, intOf, intsOf, boolsOf, strsOf, bdR, Ex.isKn, sliD, revD, addL, attrD, mulOk, pow64, enumL,
  List.all_cons, List.all_nil, List.any_cons, List.any_nil, Option.bind_some, Option.map_some, Option.isSome_some, Bool.and_true, Bool.true_and, Bool.or_false, Bool.false_or, Bool.or_true, Bool.true_or, Bool.and_self, Bool.and_false, Bool.false_and, Bool.not_true, Bool.not_false, Bool.not_not, Bool.false_eq_true, decide_eq_true_eq, decide_true, decide_false, if_true, if_false, ite_true, ite_false, ↓reduceIte, ne_eq, not_true_eq_false, not_false_eq_true, and_self, and_true, true_and,
  natC2, natC3, natC4, natC5, natC6, natC7, natC8, natC9, Int.natCast_zero, Int.natCast_one, cutL_to, cutL_from, cutL_ab, cutL_all, Int.zero_add, natAbs_10, Int.reducePow, atL_nat, Int.natCast_nonneg, natGe, Int.toNat_natCast, List.getElem_cons_zero, atL_nn, Int.le_refl, Int.toNat_zero, Int.reduceLT, Int.reduceLE, Int.reduceToNat, Int.reduceNeg, Int.reduceAdd, Int.reduceMul, Int.reduceSub, Int.reduceEq, Int.reduceBNe, Int.reduceBEq, Nat.reduceAdd, Nat.reduceSub, Nat.reduceLT, Nat.reduceEqDiff, Nat.zero_add, Nat.add_zero, List.getElem?_set_self, List.set_set, List.length_set, List.length_append, Int.reduceNeg, reduceCtorEq, *])
variable {T : Tx} {c : Cl} {h : Hh} {b : Nat}
theorem perm_map_inv {α β : Type} {f : α → β} {l' m : List β} (p : l'.Perm m) : ∀ l : List α, m = l.map f → ∃ l0 : List α, l' = l0.map f ∧ l0.Perm l := by
  induction p with
  | nil => intro l e; exact ⟨[], rfl, by cases l with | nil => exact List.Perm.refl _ | cons _ _ => cases e⟩
  | cons x p ih =>
    intro l e
    cases l with
    | nil => cases e
    | cons y l =>
      injection e with e1 e2
      obtain ⟨l0, a, q⟩ := ih l e2
      exact ⟨y :: l0, by rw [a, e1]; rfl, q.cons y⟩
  | swap x y l1 =>
    intro l e
    cases l with
    | nil => cases e
    | cons u l =>
      cases l with
      | nil => injection e with e1 e2; cases e2
      | cons v l =>
        injection e with e1 e2
        injection e2 with e2 e3
        exact ⟨v :: u :: l, by rw [e1, e2, e3]; rfl, List.Perm.swap u v l⟩
  | trans p q ih1 ih2 =>
    intro l e
    obtain ⟨l0, a, q⟩ := ih2 l e
    obtain ⟨l1, a1, q1⟩ := ih1 l0 a
    exact ⟨l1, a1, q1.trans q⟩
def Str.cs (s : Str) : List Nat := s.cps.toList
def nameOk (s : Str) : Prop := 1 ≤ s.cps.toList.length ∧ s.cps.toList.length ≤ 6 ∧ ∀ x ∈ s.cps.toList, 97 ≤ x ∧ x < 123
structure NamesOk (many : Nat) (ns : List Str) : Prop where
  nodup : ns.Nodup
  ok : ∀ n ∈ ns, nameOk n
  some : 0 < ns.length
  most : ns.length ≤ many
theorem NamesOk.perm {many : Nat} {ns ms : List Str} (p : ns.Perm ms) (x : NamesOk many ms) : NamesOk many ns :=
  ⟨p.nodup_iff.mpr x.nodup, fun n hn => x.ok n (p.subset hn), by rw [p.length_eq]; exact x.some, by rw [p.length_eq]; exact x.most⟩
structure HasNames (T : Tx) : Prop extends HasTake T where
  names : T.fn "_law_names" = some f__law_names
theorem mixed_names (H : HasTake T) (hc : At T 2 c) (hb : isBox h b) {a : D} {many : Nat} {ns : List Str} (ha : seqOf h a = some (ns.map .str)) (x : NamesOk many ns) (hm : many ≤ 1000) :
    Rt (c.call "_law_mixed" [.ref b, a] [] [] h) fun d h' => ∃ ns, d = .lst (ns.map .str) ∧ NamesOk many ns ∧ Bx b h h' := by
  refine (s_mixed H hc hb ha (by rw [List.length_map]; have := x.most; omega) (belL_map (fun _ => rfl) _)).mono ?_
  rintro d h' ⟨l', rfl, p, g⟩
  obtain ⟨l0, rfl, q⟩ := perm_map_inv p ns rfl
  exact ⟨l0, rfl, x.perm q, g⟩
def words : List Str := ["day", "tell", "undo", "hinges", "order", "before", "ask", "things", "case", "swap", "next", "none", "never", "sure", "mya", "may", "a", "ab", "bc", "c"]
theorem words_split : (Txt.split "day tell undo hinges order before ask things case swap next none never sure mya may a ab bc c" " ") = words := by decide +kernel
theorem words_all : (Txt.split "day tell undo hinges order before ask things case swap next none never sure mya may a ab bc c" " ").all sOk = true := by decide +kernel
theorem words_ok {i : Nat} {many : Nat} (hi : i < 20) (h0 : 0 < many) (hm : many ≤ 20) : NamesOk many (((words ++ words).drop i).take many) := by
  have key : ∀ i, i < 20 → ∀ m, m < 21 → ((((words ++ words).drop i).take m).all fun s => decide (1 ≤ s.cps.toList.length) && decide (s.cps.toList.length ≤ 6) && s.cps.toList.all fun x => decide (97 ≤ x) && decide (x < 123)) && decide ((((words ++ words).drop i).take m).Nodup) && decide ((((words ++ words).drop i).take m).length = m) = true := by decide +kernel
  have k := key i hi many (by omega)
  simp only [Bool.and_eq_true, decide_eq_true_eq, List.all_eq_true] at k
  exact ⟨k.1.2, fun n hn => ⟨(k.1.1 n hn).1.1, (k.1.1 n hn).1.2, fun x hx => (k.1.1 n hn).2 x hx⟩, by rw [k.2]; exact h0, by rw [k.2]; exact Nat.le_refl _⟩
theorem words_if : ¬ ((Str.ofString " ").length = 0 ∨ sizeL < (Str.ofString "day tell undo hinges order before ask things case swap next none never sure mya may a ab bc c").length + 2 ∨ words.all sOk = false) := by decide +kernel
theorem words_rep : repL (words.map D.str) 2 = some ((words ++ words).map D.str) := by
  unfold repL
  rw [if_pos (by decide +kernel)]
  rfl
/-- a stem of at most four letters -/
structure Stem (m : Nat) (s : Str) : Prop where
  len : s.cps.toList.length ≤ m
  ok : ∀ x ∈ s.cps.toList, 97 ≤ x ∧ x < 123
theorem s_names0 (H : HasNames T) {c' : Cl} {h1 : Hh} {f many : Nat} (hc' : At T 2 c') (g1 : Bx b h h1) (hb : isBox h b) (h0 : 0 < many) (hm : many ≤ 20)
    (e1 : c'.call "_law_take" [D.ref b, D.int 6] [] [] h = R.ok (D.int f) h1) (f0 : (f : Int) = 0) :
    Rt (leave h (exec c' f__law_names.body none [some (.ref b), some (.int many), none, none, none, none, none, none, none, none, none, none] h)) fun d h' => ∃ ns : List Str, d = .lst (ns.map .str) ∧ NamesOk many ns ∧ Bx b h h' := by
  have hbl := hb.lt
  have hc1 : At T 1 c' := hc'.mono (by omega)
  obtain ⟨_, h2, e2, i, rfl, i1, g2⟩ := s_takeN H.toHasTake hc1 (n := 20) g1.2.2 (by omega) (by omega)
  have w1 := words_split
  have w3 := words_if
  have w4 := words_rep
  have hs : (0 : Int) ≤ i + many := by omega
  have ht : ((i : Int) + many).toNat = i + many := by omega
  have ht2 : i + many - i = many := by omega
  obtain ⟨_, h3, e3, ns, rfl, nk, g3⟩ := mixed_names H.toHasTake hc' (h := h2) g2.2.2 (a := .lst ((((words ++ words).map D.str).drop i).take many)) (ns := ((words ++ words).drop i).take many) (by rw [List.map_take, List.map_drop]; rfl) (words_ok (by omega) h0 hm) (by omega)
  clear hm h0
  simp only [f__law_names]
  walk_at "dy*"
  exact .rtB hbl (g1.trans (g2.trans g3)).grb (belL_map (fun _ => rfl) ns) fun h' e' => ⟨ns, rfl, nk, e'⟩
theorem x1_names (H : HasNames T) {c' : Cl} {σ : Sl} {h' : Hh} (hc1 : At T 1 c') (gi : Bx b h h') (s0 : σ[0]? = some (some (.ref b))) (s2 : σ[2]? = some (some (.str abc))) :
    Rt (evalE c' x1__law_names σ h') fun x h2 => ∃ a : Nat, x = .str (ltr a) ∧ a < 26 ∧ Bx b h h2 := by
  obtain ⟨_, h2, e, a, rfl, ha, ga⟩ := s_takeN H.toHasTake hc1 (n := 26) gi.2.2 (by omega) (by omega)
  have hat := abc_get (k := a) (by omega)
  simp only [x1__law_names]
  walk_at "dy*"
  exact .ok ⟨a, rfl, by omega, gi.trans ga⟩
def pre1 (w : List Nat) (k : Nat) : Str := ⟨(w.take (k + 1)).toArray⟩
theorem qv_cps : (Str.ofString "qvkzjx").cps.toList = [113, 118, 107, 122, 106, 120] := by decide +kernel
theorem mn_cps : (Str.ofString "mnopq").cps.toList = [109, 110, 111, 112, 113] := by decide +kernel
theorem names_pre {many : Nat} {st : Str} (hs : Stem 4 st) (h0 : 0 < many) (hm : many ≤ 6) : NamesOk many ((List.range many).map (pre1 (st.cps.toList.take 1 ++ (Str.ofString "qvkzjx").cps.toList))) := by
  rw [qv_cps]
  have hw : 6 ≤ (st.cps.toList.take 1 ++ [113, 118, 107, 122, 106, 120]).length := by simp
  have ok : ∀ x ∈ st.cps.toList.take 1 ++ [113, 118, 107, 122, 106, 120], 97 ≤ x ∧ x < 123 := by
    intro x hx
    rcases List.mem_append.mp hx with hx | hx
    · exact hs.ok x (List.mem_of_mem_take hx)
    · simp at hx; omega
  generalize st.cps.toList.take 1 ++ [113, 118, 107, 122, 106, 120] = w at hw ok ⊢
  refine ⟨nodup_range fun i j ij jn e => ?_, fun n hn => ?_, by simpa using h0, by simp⟩
  · have := congrArg (fun s : Str => s.cps.toList.length) e
    simp only [pre1, List.length_take] at this
    omega
  · obtain ⟨k, hk, rfl⟩ := List.mem_map.mp hn
    have := List.mem_range.mp hk
    refine ⟨?_, ?_, fun x hx => ok x (List.mem_of_mem_take hx)⟩
    · simp only [pre1, List.length_take]; omega
    · simp only [pre1, List.length_take]; omega
def R3 : St := f__law_names.body.tl.tl.tl
theorem s_names1 (H : HasNames T) {c' : Cl} {h3 : Hh} {many : Nat} {st : Str} (hs : Stem 4 st) (hc' : At T 2 c') (g3 : Bx b h h3) (hb : isBox h b) (h0 : 0 < many) (hm : many ≤ 20) :
    Rt (leave h (exec c' f__law_names.body.tl.tl.tl none [some (.ref b), some (.int many), some (.str abc), some (.int 1), none, none, none, some (.str st), none, none, none, none] h3)) fun d h' => ∃ ns : List Str, d = .lst (ns.map .str) ∧ NamesOk many ns ∧ Bx b h h' := by
  have hbl := hb.lt
  obtain ⟨m, hm6, hmm⟩ : ∃ m : Nat, (if (6 : Int) < many then (6 : Int) else many) = (m : Int) ∧ 0 < m ∧ m ≤ 6 ∧ m ≤ many := by
    by_cases q : (6 : Int) < many
    · exact ⟨6, by rw [if_pos q]; rfl, by omega⟩
    · exact ⟨many, by rw [if_neg q], by omega⟩
  have hmi : (m : Int) ≤ 1000000 := by omega
  obtain ⟨as, h4, e4, g4, n4, p4⟩ := lc_nm (c := c') (k := 8) (e := x2__law_names) (σ := [some (.ref b), some (.int many), some (.str abc), some (.int 1), none, none, none, some (.str st), none, none, none, none]) (l := rangeL 0 m) (h := h3) D.str (fun i a => a = pre1 (st.cps.toList.take 1 ++ (Str.ofString "qvkzjx").cps.toList) i) (Bx b h) (by rw [rangeL_length]; show _ ≤ 16777216; omega) g3 (by
    intro i d h' hi gi
    obtain ⟨rfl, hi⟩ := rangeL_get0 hi
    have hi1 : (0 : Int) ≤ i + 1 := by omega
    have hi2 : ((i : Int) + 1).toNat = i + 1 := by omega
    have hsz : (⟨(List.take 1 st.cps.toList).toArray⟩ : Str).length + (Str.ofString "qvkzjx").length ≤ sizeL := by
      rw [str_len, str_len, qv_cps]
      have : (List.take 1 st.cps.toList).length ≤ 1 := List.length_take_le _ _
      show _ ≤ 16777216
      simp only [List.length_cons, List.length_nil]
      omega
    simp only [x2__law_names]
    walk_at "dy*"
    exact .ok ⟨_, rfl, by rw [str_add]; rfl, gi⟩)
  have e5 : as = (List.range m).map (pre1 (st.cps.toList.take 1 ++ (Str.ofString "qvkzjx").cps.toList)) := idx_eq (by rw [n4, rangeL_length]; omega) p4
  subst e5
  have no := names_pre hs hmm.1 hmm.2.1
  obtain ⟨_, h5, e5, ns, rfl, nk, g5⟩ := mixed_names H.toHasTake hc' (h := h4) g4.2.2 (a := .lst (((List.range m).map (pre1 (st.cps.toList.take 1 ++ (Str.ofString "qvkzjx").cps.toList))).map D.str)) rfl no (by omega)
  clear hm h0
  simp only [f__law_names, St.tl]
  walk_at "dy*"
  exact .rtB hbl (g4.trans g5).grb (belL_map (fun _ => rfl) ns) fun h' e' => ⟨ns, rfl, ⟨nk.nodup, nk.ok, nk.some, by have := nk.most; omega⟩, e'⟩
/-- one letter more behind the stem -/
def addL1 (st : Str) (q k : Nat) : Str := st ++ ltr ((q + 7 * k) % 26)
theorem names_add {many : Nat} {st : Str} {q : Nat} (hs : Stem 5 st) (h0 : 0 < many) (hm : many ≤ 20) : NamesOk many ((List.range many).map (addL1 st q)) := by
  refine ⟨nodup_range fun i j ij jn e => ?_, fun n hn => ?_, by simpa using h0, by simp⟩
  · have := congrArg (fun s : Str => s.cps.toList) e
    simp only [addL1, str_add, ltr_cps, List.append_cancel_left_eq, List.cons.injEq, and_true] at this
    omega
  · obtain ⟨k, hk, rfl⟩ := List.mem_map.mp hn
    have hl := hs.len
    refine ⟨?_, ?_, fun x hx => ?_⟩
    · simp only [addL1, str_add, ltr_cps, List.length_append, List.length_singleton]; omega
    · simp only [addL1, str_add, ltr_cps, List.length_append, List.length_singleton]; omega
    · simp only [addL1, str_add, ltr_cps] at hx
      rcases List.mem_append.mp hx with hx | hx
      · exact hs.ok x hx
      · rw [List.mem_singleton] at hx; omega
theorem s_names2 (H : HasNames T) {c' : Cl} {h3 : Hh} {many : Nat} {st : Str} (hs : Stem 4 st) (hc' : At T 2 c') (g3 : Bx b h h3) (hb : isBox h b) (h0 : 0 < many) (hm : many ≤ 20) :
    Rt (leave h (exec c' f__law_names.body.tl.tl.tl none [some (.ref b), some (.int many), some (.str abc), some (.int 2), none, none, none, some (.str st), none, none, none, none] h3)) fun d h' => ∃ ns : List Str, d = .lst (ns.map .str) ∧ NamesOk many ns ∧ Bx b h h' := by
  have hbl := hb.lt
  have hc1 : At T 1 c' := hc'.mono (by omega)
  have hl := hs.len
  have hsl : st.length = st.cps.toList.length := str_len st
  obtain ⟨_, h4, e4, x, rfl, x1, g4⟩ := s_takeN H.toHasTake hc1 (n := (st.length : Int) + 1) g3.2.2 (by omega) (by omega)
  obtain ⟨_, h5, e5, q, rfl, q1, g5⟩ := s_takeN H.toHasTake hc1 (n := 26) g4.2.2 (by omega) (by omega)
  have hmi : (many : Int) ≤ 1000000 := by omega
  obtain ⟨st2, hs2, es2⟩ : ∃ st2 : Str, Stem 5 st2 ∧ (⟨(List.take 0 (st ++ Str.ofString "mnopq").cps.toList).toArray⟩ : Str) = st2 := by
    refine ⟨_, ⟨?_, ?_⟩, rfl⟩
    · simp only [List.length_take]; omega
    · intro x hx
      have := List.mem_of_mem_take hx
      rw [str_add, mn_cps] at this
      rcases List.mem_append.mp this with hx | hx
      · exact hs.ok x hx
      · simp at hx; omega
  obtain ⟨as, h6, e6, g6, n6, p6⟩ := lc_nm (c := c') (k := 8) (e := x3__law_names) (σ := [some (.ref b), some (.int many), some (.str abc), some (.int 2), none, some (.int q), none, some (.str st2), none, some (.int x), none, none]) (l := rangeL 0 many) (h := h5) D.str (fun i a => a = addL1 st2 q i) (Bx b h) (by rw [rangeL_length]; show _ ≤ 16777216; omega) (g3.trans (g4.trans g5)) (by
    intro i d h' hi gi
    obtain ⟨rfl, hi⟩ := rangeL_get0 hi
    have hi2 : ((q : Int) + 7 * (i : Int)) % 26 = ((q + 7 * i) % 26 : Nat) := by omega
    have hat := abc_get (k := (q + 7 * i) % 26) (Nat.mod_lt _ (by omega))
    have hsz : st2.length + (⟨#[97 + (q + 7 * i) % 26]⟩ : Str).length ≤ sizeL := by
      rw [str_len, str_len]
      have := hs2.len
      show _ ≤ 16777216
      simp only [List.length_cons, List.length_nil]
      omega
    simp only [x3__law_names]
    walk_at "dy*"
    exact .ok ⟨_, rfl, rfl, gi⟩)
  have e7 : as = (List.range many).map (addL1 st2 q) := idx_eq (by rw [n6, rangeL_length]; omega) p6
  subst e7
  have no := names_add (q := q) hs2 h0 hm
  obtain ⟨_, h7, e7, ns, rfl, nk, g7⟩ := mixed_names H.toHasTake hc' (h := h6) g6.2.2 (a := .lst (((List.range many).map (addL1 st2 q)).map D.str)) rfl no (by omega)
  have hsz : st.length + (Str.ofString "mnopq").length ≤ sizeL := by
    rw [str_len, str_len, mn_cps]
    show _ ≤ 16777216
    simp only [List.length_cons, List.length_nil]
    omega
  clear hm h0 hsl
  simp only [f__law_names, St.tl]
  walk_at "dy*"
  exact .rtB hbl (g6.trans g7).grb (belL_map (fun _ => rfl) ns) fun h' e' => ⟨ns, rfl, nk, e'⟩
theorem s_names3 (H : HasNames T) {c' : Cl} {h3 : Hh} {many : Nat} {st : Str} (hs : Stem 4 st) (hc' : At T 2 c') (g3 : Bx b h h3) (hb : isBox h b) (h0 : 0 < many) (hm : many ≤ 20) :
    Rt (leave h (exec c' f__law_names.body.tl.tl.tl none [some (.ref b), some (.int many), some (.str abc), some (.int 3), none, none, none, some (.str st), none, none, none, none] h3)) fun d h' => ∃ ns : List Str, d = .lst (ns.map .str) ∧ NamesOk many ns ∧ Bx b h h' := by
  have hbl := hb.lt
  have hc1 : At T 1 c' := hc'.mono (by omega)
  have hl := hs.len
  have hsl : st.length = st.cps.toList.length := str_len st
  obtain ⟨_, h4, e4, x, rfl, x1, g4⟩ := s_takeN H.toHasTake hc1 (n := (st.length : Int) + 1) g3.2.2 (by omega) (by omega)
  obtain ⟨_, h5, e5, q, rfl, q1, g5⟩ := s_takeN H.toHasTake hc1 (n := 26) g4.2.2 (by omega) (by omega)
  have hmi : (many : Int) ≤ 1000000 := by omega
  obtain ⟨st2, hs2, es2⟩ : ∃ st2 : Str, Stem 5 st2 ∧ (⟨(List.take 5 (st ++ Str.ofString "mnopq").cps.toList).toArray⟩ : Str) = st2 := by
    refine ⟨_, ⟨?_, ?_⟩, rfl⟩
    · simp only [List.length_take]; omega
    · intro x hx
      have := List.mem_of_mem_take hx
      rw [str_add, mn_cps] at this
      rcases List.mem_append.mp this with hx | hx
      · exact hs.ok x hx
      · simp at hx; omega
  obtain ⟨as, h6, e6, g6, n6, p6⟩ := lc_nm (c := c') (k := 8) (e := x3__law_names) (σ := [some (.ref b), some (.int many), some (.str abc), some (.int 3), none, some (.int q), none, some (.str st2), none, some (.int x), none, none]) (l := rangeL 0 many) (h := h5) D.str (fun i a => a = addL1 st2 q i) (Bx b h) (by rw [rangeL_length]; show _ ≤ 16777216; omega) (g3.trans (g4.trans g5)) (by
    intro i d h' hi gi
    obtain ⟨rfl, hi⟩ := rangeL_get0 hi
    have hi2 : ((q : Int) + 7 * (i : Int)) % 26 = ((q + 7 * i) % 26 : Nat) := by omega
    have hat := abc_get (k := (q + 7 * i) % 26) (Nat.mod_lt _ (by omega))
    have hsz : st2.length + (⟨#[97 + (q + 7 * i) % 26]⟩ : Str).length ≤ sizeL := by
      rw [str_len, str_len]
      have := hs2.len
      show _ ≤ 16777216
      simp only [List.length_cons, List.length_nil]
      omega
    simp only [x3__law_names]
    walk_at "dy*"
    exact .ok ⟨_, rfl, rfl, gi⟩)
  have e7 : as = (List.range many).map (addL1 st2 q) := idx_eq (by rw [n6, rangeL_length]; omega) p6
  subst e7
  have no := names_add (q := q) hs2 h0 hm
  obtain ⟨_, h7, e7, ns, rfl, nk, g7⟩ := mixed_names H.toHasTake hc' (h := h6) g6.2.2 (a := .lst (((List.range many).map (addL1 st2 q)).map D.str)) rfl no (by omega)
  have hsz : st.length + (Str.ofString "mnopq").length ≤ sizeL := by
    rw [str_len, str_len, mn_cps]
    show _ ≤ 16777216
    simp only [List.length_cons, List.length_nil]
    omega
  clear hm h0 hsl
  simp only [f__law_names, St.tl]
  walk_at "dy*"
  exact .rtB hbl (g6.trans g7).grb (belL_map (fun _ => rfl) ns) fun h' e' => ⟨ns, rfl, nk, e'⟩
/-- one letter more in the stem, and one behind each second -/
def insL (st : Str) (x q k : Nat) : Str := ((⟨(st.cps.toList.take x).toArray⟩ ++ ltr ((q + 7 * k) % 26)) ++ ⟨(st.cps.toList.drop x).toArray⟩) ++ ⟨(List.replicate (k % 2) (ltr ((q + 7 * k) % 26)).cps.toList).flatten.toArray⟩
theorem rep_ltr (n c : Nat) : (List.replicate n (ltr c).cps.toList).flatten = List.replicate n (97 + c) := by
  rw [ltr_cps]
  induction n with
  | zero => rfl
  | succ n ih => simp [List.replicate_succ, ih]
theorem insL_cps (st : Str) (x q k : Nat) : (insL st x q k).cps.toList = st.cps.toList.take x ++ ((97 + (q + 7 * k) % 26) :: (st.cps.toList.drop x ++ List.replicate (k % 2) (97 + (q + 7 * k) % 26))) := by
  simp only [insL, str_add, rep_ltr]
  simp only [ltr_cps, List.append_assoc, List.cons_append, List.nil_append]
theorem names_ins {many : Nat} {st : Str} {x q : Nat} (hs : Stem 4 st) (hx : x ≤ st.cps.toList.length) (h0 : 0 < many) (hm : many ≤ 20) : NamesOk many ((List.range many).map (insL st x q)) := by
  have hl := hs.len
  refine ⟨nodup_range fun i j ij jn e => ?_, fun n hn => ?_, by simpa using h0, by simp⟩
  · have := congrArg (fun s : Str => s.cps.toList) e
    simp only [insL_cps, List.append_cancel_left_eq, List.cons.injEq] at this
    omega
  · obtain ⟨k, hk, rfl⟩ := List.mem_map.mp hn
    refine ⟨?_, ?_, fun y hy => ?_⟩
    · simp only [insL_cps, List.length_append, List.length_cons]; omega
    · simp only [insL_cps, List.length_append, List.length_cons, List.length_take, List.length_drop, List.length_replicate]; omega
    · simp only [insL_cps] at hy
      rcases List.mem_append.mp hy with hy | hy
      · exact hs.ok y (List.mem_of_mem_take hy)
      · rcases List.mem_cons.mp hy with hy | hy
        · omega
        · rcases List.mem_append.mp hy with hy | hy
          · exact hs.ok y (List.mem_of_mem_drop hy)
          · have := List.eq_of_mem_replicate hy; omega
theorem s_names4 (H : HasNames T) {c' : Cl} {h3 : Hh} {f many : Nat} {st : Str} (hs : Stem 4 st) (hc' : At T 2 c') (g3 : Bx b h h3) (hb : isBox h b) (h0 : 0 < many) (hm : many ≤ 20) (f1 : ¬ (f : Int) = 1) (f2 : ¬ (f : Int) = 2) (f3 : ¬ (f : Int) = 3) :
    Rt (leave h (exec c' f__law_names.body.tl.tl.tl none [some (.ref b), some (.int many), some (.str abc), some (.int f), none, none, none, some (.str st), none, none, none, none] h3)) fun d h' => ∃ ns : List Str, d = .lst (ns.map .str) ∧ NamesOk many ns ∧ Bx b h h' := by
  have hbl := hb.lt
  have hc1 : At T 1 c' := hc'.mono (by omega)
  have hl := hs.len
  have hsl : st.length = st.cps.toList.length := str_len st
  obtain ⟨_, h4, e4, x, rfl, x1, g4⟩ := s_takeN H.toHasTake hc1 (n := (st.length : Int) + 1) g3.2.2 (by omega) (by omega)
  obtain ⟨_, h5, e5, q, rfl, q1, g5⟩ := s_takeN H.toHasTake hc1 (n := 26) g4.2.2 (by omega) (by omega)
  have hmi : (many : Int) ≤ 1000000 := by omega
  have g35 := g3.trans (g4.trans g5)
  obtain ⟨h6, eh, q2, q3, q4⟩ : ∃ h6, h5 ++ [Ob.lst []] = h6 ∧ GrB b h h6 ∧ h6[h.length]? = some (.lst []) ∧ h6.length = h.length + 1 := by
    refine ⟨_, rfl, g35.grb.trans (Gr.app.grb g35.2.2), ?_, ?_⟩
    · rw [← g35.1]; simp
    · simp [g35.1]
  have l5 := g35.1
  obtain ⟨σ', h7, e7, v, v2, rfl, i1, i2, i3⟩ := for_nm (k := 8) (b := exec c' b1__law_names none) (l := rangeL 0 many) (h := h6) (σ := [some (.ref b), some (.int many), some (.str abc), some (.int f), none, some (.int q), none, some (.str st), none, some (.int x), some (.ref h.length), none])
   (fun i σ h7 => ∃ (v v2 : Option D), σ = [some (.ref b), some (.int many), some (.str abc), some (.int f), none, some (.int q), none, some (.str st), v, some (.int x), some (.ref h.length), v2] ∧ GrB b h h7 ∧ h7[h.length]? = some (.lst (((List.range i).map (insL st x q)).map .str)) ∧ h7.length = h.length + 1)
    ⟨none, none, rfl, q2, q3, q4⟩ (by
      rintro i d σ h7 hi ⟨v, v2, rfl, i1, i2, i3⟩
      obtain ⟨rfl, hi⟩ := rangeL_get0 hi
      have hi2 : ((q : Int) + 7 * (i : Int)) % 26 = ((q + 7 * i) % 26 : Nat) := by omega
      have hi3 : (i : Int) % 2 = (i % 2 : Nat) := by omega
      have hi4 : ((i % 2 : Nat) : Int) ≤ 1000 := by omega
      have hat := abc_get (k := (q + 7 * i) % 26) (Nat.mod_lt _ (by omega))
      have hsz : (⟨(List.take x st.cps.toList).toArray⟩ : Str).length + (⟨#[97 + (q + 7 * i) % 26]⟩ : Str).length ≤ sizeL := by
        show _ ≤ 16777216
        simp only [str_len, List.length_take, List.length_cons, List.length_nil]
        omega
      have hsz2 : ((⟨(List.take x st.cps.toList).toArray⟩ : Str) ++ (⟨#[97 + (q + 7 * i) % 26]⟩ : Str)).length + (⟨(List.drop x st.cps.toList).toArray⟩ : Str).length ≤ sizeL := by
        show _ ≤ 16777216
        simp only [str_len, str_add, List.length_append, List.length_take, List.length_drop, List.length_cons, List.length_nil]
        omega
      have hsz3 : (((⟨(List.take x st.cps.toList).toArray⟩ : Str) ++ (⟨#[97 + (q + 7 * i) % 26]⟩ : Str)) ++ (⟨(List.drop x st.cps.toList).toArray⟩ : Str)).length + (⟨(List.replicate (i % 2) [97 + (q + 7 * i) % 26]).flatten.toArray⟩ : Str).length ≤ sizeL := by
        have := rep_ltr (i % 2) ((q + 7 * i) % 26)
        rw [ltr_cps] at this
        rw [this]
        show _ ≤ 16777216
        simp only [str_len, str_add, List.length_append, List.length_take, List.length_drop, List.length_cons, List.length_nil, List.length_replicate]
        omega
      have hone : (⟨#[97 + (q + 7 * i) % 26]⟩ : Str).length ≤ 1000 := by
        simp only [str_len, List.length_cons, List.length_nil]
        omega
      have hap : (((List.range i).map (insL st x q)).map D.str).length < sizeL := by
        show _ < 16777216
        simp only [List.length_map, List.length_range]
        omega
      clear hm
      simp only [b1__law_names]
      walk_at "dy*"
      refine .nx ⟨_, _, rfl, i1.mk hbl (Nat.le_refl _), ?_, ?_⟩
      · rw [List.getElem?_set_self (by omega), List.range_succ, List.map_append, List.map_append]; rfl
      · rw [List.length_set, i3])
  rw [rangeL_length] at i2
  have hmt : ((many : Int) - 0).toNat = many := by omega
  rw [hmt] at i2
  have no := names_ins (x := x) (q := q) hs (by omega) h0 hm
  obtain ⟨_, h8, e8, ns, rfl, nk, g8⟩ := mixed_names H.toHasTake hc' (h := h7.set h.length .dead) (b := b) (i1.mk hbl (Nat.le_refl _)).2.2 (a := .lst (((List.range many).map (insL st x q)).map D.str)) rfl no (by omega)
  clear hm h0 hsl
  simp only [f__law_names, St.tl]
  walk_at "dy*"
  exact .rtB hbl ((i1.mk hbl (Nat.le_refl _)).trans g8.grb) (belL_map (fun _ => rfl) ns) fun h' e' => ⟨ns, rfl, nk, e'⟩
theorem s_names (H : HasNames T) (hc : At T 3 c) (hb : isBox h b) {many : Nat} (h0 : 0 < many) (hm : many ≤ 20) :
    Rt (c.call "_law_names" [.ref b, .int many] [] [] h) fun d h' => ∃ ns : List Str, d = .lst (ns.map .str) ∧ NamesOk many ns ∧ Bx b h h' := by
  obtain ⟨c', hc', e⟩ := hc.enter (vs := [.ref b, .int many]) (ks := []) (ws := []) H.names rfl h
  have hbl := hb.lt
  have hc1 : At T 1 c' := hc'.mono (by omega)
  rw [e]; clear e
  obtain ⟨_, h1, e1, f, rfl, f1, g1⟩ := s_takeN H.toHasTake hc1 (n := 6) hb (by omega) (by omega)
  by_cases f0 : (f : Int) = 0
  · exact s_names0 H hc' g1 hb h0 hm e1 f0
  obtain ⟨_, h2, e2, q, rfl, q1, g2⟩ := s_takeN H.toHasTake hc1 (n := 5) g1.2.2 (by omega) (by omega)
  have hq : (q : Int) ≤ 1000000 := by omega
  obtain ⟨as, h3, e3, g3, n3, p3⟩ := lc_nm (c := c') (k := 6) (e := x1__law_names) (σ := [some (.ref b), some (.int many), some (.str abc), some (.int f), none, none, none, none, none, none, none, none]) (l := rangeL 0 q) (h := h2) (fun k : Nat => D.str (ltr k)) (fun _ a => a < 26) (Bx b h) (by rw [rangeL_length]; show _ ≤ 16777216; omega) (g1.trans g2) (by
    intro i d h hi gi
    exact x1_names H hc1 gi rfl rfl)
  rw [rangeL_length] at n3
  have hso := strsOf_map (f := ltr) as
  have hst : Stem 4 ((Str.ofString "").join (as.map ltr)) := by
    have hin : ∀ a ∈ as, a < 26 := fun a ha => by
      obtain ⟨i, hi, rfl⟩ := List.getElem_of_mem ha
      exact p3 i _ (List.getElem?_eq_getElem hi)
    have e0 : ((as.map ltr).map fun s : Str => s.cps.toList).flatten = as.map fun k => 97 + k := by
      clear n3 p3 e3 hso hin
      induction as with
      | nil => rfl
      | cons a as ih => simp only [List.map_cons, List.flatten_cons, ltr_cps, ih]; rfl
    refine ⟨?_, fun x hx => ?_⟩
    · rw [join_empty_cps, e0, List.length_map]; omega
    · rw [join_empty_cps, e0] at hx
      obtain ⟨a, ha, rfl⟩ := List.mem_map.mp hx
      have := hin a ha
      omega
  have hjl : joinLen (Str.ofString "") (as.map ltr) ≤ sizeL := by
    have := joinLen_le (m := 1) (as.map ltr) (fun s hs => by obtain ⟨a, _, rfl⟩ := List.mem_map.mp hs; rw [str_len, ltr_cps]; exact Nat.le_refl _)
    rw [List.length_map] at this
    show _ ≤ 16777216
    omega
  have rest : Rt (leave h (exec c' f__law_names.body.tl.tl.tl none [some (.ref b), some (.int many), some (.str abc), some (.int f), none, none, none, some (.str ((Str.ofString "").join (as.map ltr))), none, none, none, none] h3)) fun d h' => ∃ ns : List Str, d = .lst (ns.map .str) ∧ NamesOk many ns ∧ Bx b h h' := by
    by_cases f1' : (f : Int) = 1
    · rw [f1']; exact s_names1 H hst hc' g3 hb h0 hm
    · by_cases f2' : (f : Int) = 2
      · rw [f2']; exact s_names2 H hst hc' g3 hb h0 hm
      · by_cases f3' : (f : Int) = 3
        · rw [f3']; exact s_names3 H hst hc' g3 hb h0 hm
        · exact s_names4 H hst hc' g3 hb h0 hm f1' f2' f3'
  clear hm h0
  have eb : f__law_names.body = .cons f__law_names.body.hd (.cons f__law_names.body.tl.hd (.cons f__law_names.body.tl.tl.hd f__law_names.body.tl.tl.tl)) := rfl
  rw [eb]
  generalize f__law_names.body.tl.tl.tl = K at rest ⊢
  simp only [f__law_names, St.hd, St.tl]
  rw [show Str.ofString "abcdefghijklmnopqrstuvwxyz" = abc from rfl]
  walk_at "dy*"
end Dy
end

section
set_option linter.all false
set_option maxRecDepth 100000
set_option maxHeartbeats 1000000
set_option Elab.async false
namespace Dy
open PySem
local macro_rules | `(tactic| walk_at "dy") => `(tactic| simp -implicitDefEqProofs only [eS_nil, eS_cons, eS_asg, eS_asgS, eS_asgSS, kSS0, kSS1, kSS2, kSS3, kSS4, eS_aug, eS_ex, eS_for, eS_while, eS_if, eS_ret, eS_retN, eS_raise, eS_brk, eS_cnt, eS_pass, eS_try, eS_hnil, kTry_nx, kTry_rt, kTry_bk, kTry_ct, kTry_ex, eS_hyesN, eS_hyes0, eS_hno, calmF_nx, calmF_rt, calmF_bk, calmF_ct, unas_nx, unas_rt, unas_bk, unas_ct, set_end, get_end, eS_frzv, eT, nx_then, eE_nil, eE_cons, eE_var, eE_kn, eE_kb, eE_ki, eE_ks, eE_glo, eE_bin, eE_neg, eE_cmp, eE_cmp2, eE_not, eE_and, eE_or, eE_ife, eE_tup, eE_lst, eE_call, eE_blt, eE_met, eE_isi, eE_sub, eE_sli, eE_rev, eE_lc, eE_listr, eE_rng, eE_enum, eE_zip, kZip, zipD, eE_exf, eE_ise, exM_exc, exOf_ref, kIse_1, kIse_2, kExf_word, kExf_visitor, kExf_case, kExf_row, kExf_atV, kExf_atO, kExf_atP, kExf_names, kExf_many, kExf_wordM, kExf_most, kExf_atB, kExf_name, seqP_p, seqP_t, seqP_l, seqP_r, lsOf_t, lsOf_l, lsOf_d, EC.fs, EC.leaf, eE_frz,
  varM_some, kCons, kCons2, kBin, kNeg, kBl, kCmp, kCmp2, kC21, kC22, kC23, kNot, kNot2, kAnd, kAnd2, kOr, kOr2, kIfe, kIfe2, kLst, kCall, kCall2, kBlt, kMet, kMet2, kIsi, kSub, kSub2, kSli, kSli1, kSli2, kRev, kLc, kLc2, kRng_1, kRng_nat, kRng_2, kEnum, kFrz, ofS_some, kAsg, kNx, kAS1, kAS2, kAS3, kAug, augM, kTru, kFor, kFor2, kIf, kRaise, frzM, frzM2, asTup,
  R.bind_ok, R.bind_ex, R.go_ok, R.go_ex, Fl.then_ex, Fl.turn_ex, Fl.then_nx, Fl.then_rt, Fl.then_bk, Fl.then_ct, Fl.turn_nx, Fl.turn_rt, Fl.turn_bk, Fl.turn_ct, R.opt_some, calm_ok, List.map_cons, List.map_nil, List.length_cons, List.length_nil, List.replicate, List.cons_append, List.nil_append, List.append_nil, List.getElem?_cons_zero, List.getElem?_cons_succ, List.set_cons_zero, List.set_cons_succ,
  subD, cmpD, truthy_non, truthy_bl, truthy_int, truthy_str, truthy_tup, truthy_lst, setT, binD, putD, mkL, mkD, bltD, lenD_str, lenD_tup, lenD_lst, lenD_scr, lenD_ref, lenM_lst, clr, Tg.slots, seqOf_t, seqOf_l, seqOf_r, lstOf_l, lstOf_r, lstM_some, metD, Mt.rcv, Mt.kind, D.isStr, known, Ty.has, Ty.isB, srcOf_t, srcOf_l, srcOf_r, srcM_lst, forS_its, compS_its, eqD_int, eqD_str, eqD_bl, res, D.isNon, intOf, intsOf, boolsOf, strsOf, bdR, Ex.isKn, sliD, revD, addL, attrD, mulOk, pow64, enumL,
  List.all_cons, List.all_nil, List.any_cons, List.any_nil, Option.bind_some, Option.map_some, Option.isSome_some, Bool.and_true, Bool.true_and, Bool.or_false, Bool.false_or, Bool.or_true, Bool.true_or, Bool.and_self, Bool.and_false, Bool.false_and, Bool.not_true, Bool.not_false, Bool.not_not, Bool.false_eq_true, decide_eq_true_eq, decide_true, decide_false, if_true, if_false, ite_true, ite_false, ↓reduceIte, ne_eq, not_true_eq_false, not_false_eq_true, and_self, and_true, true_and,
  natC2, natC3, natC4, natC5, natC6, natC7, natC8, natC9, Int.natCast_zero, Int.natCast_one, cutL_to, cutL_from, cutL_ab, cutL_all, Int.zero_add, natAbs_10, Int.reducePow, atL_nat, Int.natCast_nonneg, natGe, Int.toNat_natCast, List.getElem_cons_zero, atL_nn, Int.le_refl, Int.toNat_zero, Int.reduceLT, Int.reduceLE, Int.reduceToNat, Int.reduceNeg, Int.reduceAdd, Int.reduceMul, Int.reduceSub, Int.reduceEq, Int.reduceBNe, Int.reduceBEq, Nat.reduceAdd, Nat.reduceSub, Nat.reduceLT, Nat.reduceEqDiff, Nat.zero_add, Nat.add_zero, List.getElem?_set_self, List.set_set, List.length_set, List.length_append, Int.reduceNeg, reduceCtorEq])
local macro_rules | `(tactic| walk_at "dy*") => `(tactic| simp -implicitDefEqProofs only [eS_nil, eS_cons, eS_asg, eS_asgS, eS_asgSS, kSS0, kSS1, kSS2, kSS3, kSS4, eS_aug, eS_ex, eS_for, eS_while, eS_if, eS_ret, eS_retN, eS_raise, eS_brk, eS_cnt, eS_pass, eS_try, eS_hnil, kTry_nx, kTry_rt, kTry_bk, kTry_ct, kTry_ex, eS_hyesN, eS_hyes0, eS_hno, calmF_nx, calmF_rt, calmF_bk, calmF_ct, unas_nx, unas_rt, unas_bk, unas_ct, set_end, get_end, eS_frzv, eT, nx_then, eE_nil, eE_cons, eE_var, eE_kn, eE_kb, eE_ki, eE_ks, eE_glo, eE_bin, eE_neg, eE_cmp, eE_cmp2, eE_not, eE_and, eE_or, eE_ife, eE_tup, eE_lst, eE_call, eE_blt, eE_met, eE_isi, eE_sub, eE_sli, eE_rev, eE_lc, eE_listr, eE_rng, eE_enum, eE_zip, kZip, zipD, eE_exf, eE_ise, exM_exc, exOf_ref, kIse_1, kIse_2, kExf_word, kExf_visitor, kExf_case, kExf_row, kExf_atV, kExf_atO, kExf_atP, kExf_names, kExf_many, kExf_wordM, kExf_most, kExf_atB, kExf_name, seqP_p, seqP_t, seqP_l, seqP_r, lsOf_t, lsOf_l, lsOf_d, EC.fs, EC.leaf, eE_frz,
  varM_some, kCons, kCons2, kBin, kNeg, kBl, kCmp, kCmp2, kC21, kC22, kC23, kNot, kNot2, kAnd, kAnd2, kOr, kOr2, kIfe, kIfe2, kLst, kCall, kCall2, kBlt, kMet, kMet2, kIsi, kSub, kSub2, kSli, kSli1, kSli2, kRev, kLc, kLc2, kRng_1, kRng_nat, kRng_2, kEnum, kFrz, ofS_some, kAsg, kNx, kAS1, kAS2, kAS3, kAug, augM, kTru, kFor, kFor2, kIf, kRaise, frzM, frzM2, asTup,
  R.bind_ok, R.bind_ex, R.go_ok, R.go_ex, Fl.then_ex, Fl.turn_ex, Fl.then_nx, Fl.then_rt, Fl.then_bk, Fl.then_ct, Fl.turn_nx, Fl.turn_rt, Fl.turn_bk, Fl.turn_ct, R.opt_some, calm_ok, List.map_cons, List.map_nil, List.length_cons, List.length_nil, List.replicate, List.cons_append, List.nil_append, List.append_nil, List.getElem?_cons_zero, List.getElem?_cons_succ, List.set_cons_zero, List.set_cons_succ,
  subD, cmpD, truthy_non, truthy_bl, truthy_int, truthy_str, truthy_tup, truthy_lst, setT, binD, putD, mkL, mkD, bltD, lenD_str, lenD_tup, lenD_lst, lenD_scr, lenD_ref, lenM_lst, clr, Tg.slots, seqOf_t, seqOf_l, seqOf_r, lstOf_l, lstOf_r, lstM_some, metD, Mt.rcv, Mt.kind, D.isStr, known, Ty.has, Ty.isB, srcOf_t, srcOf_l, srcOf_r, srcM_lst, forS_its, compS_its, eqD_int, eqD_str, eqD_bl, res, D.isNon, intOf, intsOf, boolsOf, strsOf, bdR, Ex.isKn, sliD, revD, addL, attrD, mulOk, pow64, enumL,
  List.all_cons, List.all_nil, List.any_cons, List.any_nil, Option.bind_some, Option.map_some, Option.isSome_some, Bool.and_true, Bool.true_and, Bool.or_false, Bool.false_or, Bool.or_true, Bool.true_or, Bool.and_self, Bool.and_false, Bool.false_and, Bool.not_true, Bool.not_false, Bool.not_not, Bool.false_eq_true, decide_eq_true_eq, decide_true, decide_false, if_true, if_false, ite_true, ite_false, ↓reduceIte, ne_eq, not_true_eq_false, not_false_eq_true, and_self, and_true, true_and,
  natC2, natC3, natC4, natC5, natC6, natC7, natC8, natC9, Int.natCast_zero, Int.natCast_one, cutL_to, cutL_from, cutL_ab, cutL_all, Int.zero_add, natAbs_10, Int.reducePow, atL_nat, Int.natCast_nonneg, natGe, Int.toNat_natCast, List.getElem_cons_zero, atL_nn, Int.le_refl, Int.toNat_zero, Int.reduceLT, Int.reduceLE, Int.reduceToNat, Int.reduceNeg, Int.reduceAdd, Int.reduceMul, Int.reduceSub, Int.reduceEq, Int.reduceBNe, Int.reduceBEq, Nat.reduceAdd, Nat.reduceSub, Nat.reduceLT, Nat.reduceEqDiff, Nat.zero_add, Nat.add_zero, List.getElem?_set_self, List.set_set, List.length_set, List.length_append, Int.reduceNeg, reduceCtorEq, *])
variable {T : Tx} {c : Cl} {h : Hh} {b : Nat}
structure Day where
  things : Nat
  start : List Nat
  band : List (Str × List Case)
def ruleD (r : List Case) : D := .tup (r.map Case.toD)
def hingeD (x : Str × List Case) : D := .tup [.str x.1, ruleD x.2]
def Day.toD (d : Day) : D := .tup [.int d.things, .tup (d.start.map nD), .tup (d.band.map hingeD)]
def RuleOk (t p : Nat) (r : List Case) : Prop := (∀ k ∈ r, k.ok t p) ∧ r.length ≤ 6
structure Day.ok (d : Day) (most : Nat) : Prop where
  t0 : 2 ≤ d.things
  t1 : d.things ≤ 4
  p0 : 1 ≤ d.start.length
  p1 : d.start.length ≤ 6
  start : ∀ x ∈ d.start, x < d.things
  names : NamesOk most (d.band.map Prod.fst)
  rules : ∀ x ∈ d.band, RuleOk d.things d.start.length x.2
theorem belL_ruleD {n : Nat} (r : List Case) : (ruleD r).bel n = true := by
  simp only [ruleD, D.bel]
  exact belL_map (fun k => k.belD) r
theorem Day.belD {n : Nat} (d : Day) : d.toD.bel n = true := by
  simp only [Day.toD, D.bel, D.belL, Bool.and_true, Bool.and_eq_true, Bool.true_and]
  refine ⟨belL_map (fun _ => rfl) _, belL_map (fun x => ?_) _⟩
  simp only [hingeD, D.bel, D.belL, Bool.and_true, Bool.true_and]
  exact belL_ruleD _
theorem pick8 {x0 x1 x2 x3 x4 x5 x6 x7 : Nat} {i : Nat} (h : (i : Int) < 8) (P : Nat → Prop) (h0 : P x0) (h1 : P x1) (h2 : P x2) (h3 : P x3) (h4 : P x4) (h5 : P x5) (h6 : P x6) (h7 : P x7) : ∃ y : Nat, [D.int x0, D.int x1, D.int x2, D.int x3, D.int x4, D.int x5, D.int x6, D.int x7][i]? = some (.int y) ∧ P y := by
  match i, h with
  | 0, _ => exact ⟨_, rfl, h0⟩
  | 1, _ => exact ⟨_, rfl, h1⟩
  | 2, _ => exact ⟨_, rfl, h2⟩
  | 3, _ => exact ⟨_, rfl, h3⟩
  | 4, _ => exact ⟨_, rfl, h4⟩
  | 5, _ => exact ⟨_, rfl, h5⟩
  | 6, _ => exact ⟨_, rfl, h6⟩
  | 7, _ => exact ⟨_, rfl, h7⟩
  | n + 8, h => omega
structure HasRule (T : Tx) : Prop extends HasCase T where
  rule : T.fn "_law_rule" = some f__law_rule
theorem s_rule (H : HasRule T) (hc : At T 4 c) (hb : isBox h b) {t p : Nat} (ht : 0 < t) (ht2 : t < 1000) (hp : 0 < p) (hp2 : p < 1000) :
    Rt (c.call "_law_rule" [.ref b, .int t, .int p] [] [] h) fun d h' => ∃ r, d = ruleD r ∧ RuleOk t p r ∧ Bx b h h' := by
  obtain ⟨c', hc', e⟩ := hc.enter (vs := [.ref b, .int t, .int p]) (ks := []) (ws := []) H.rule rfl h
  have hbl := hb.lt
  have hc1 : At T 1 c' := hc'.mono (by omega)
  rw [e]; clear e
  obtain ⟨_, h1, e1, i, rfl, i1, g1⟩ := s_takeN H.toHasTake hc1 (n := 8) hb (by omega) (by omega)
  obtain ⟨m, em, hm⟩ : ∃ m : Nat, [D.int 1, D.int 1, D.int 1, D.int 2, D.int 2, D.int 3, D.int 0, D.int 6][i]? = some (.int m) ∧ m ≤ 6 := pick8 (x0 := 1) (x1 := 1) (x2 := 1) (x3 := 2) (x4 := 2) (x5 := 3) (x6 := 0) (x7 := 6) i1 (fun m => m ≤ 6) (by omega) (by omega) (by omega) (by omega) (by omega) (by omega) (by omega) (by omega)
  have hmi : (m : Int) ≤ 1000000 := by omega
  obtain ⟨as, h2, e2, g2, n2, p2⟩ := lc_nm (c := c') (k := 4) (e := x1__law_rule) (σ := [some (.ref b), some (.int t), some (.int p), some (.int m), none]) (l := rangeL 0 m) (h := h1) Case.toD (fun _ a => a.ok t p) (Bx b h) (by rw [rangeL_length]; show _ ≤ 16777216; omega) g1 (by
    intro i d h hi gi
    obtain ⟨_, h', e, a, rfl, ha, ga⟩ := s_case H.toHasCase hc' gi.2.2 ht ht2 hp hp2
    simp only [x1__law_rule]
    walk_at "dy*"
    exact .ok ⟨a, rfl, ha, gi.trans ga⟩)
  simp only [f__law_rule]
  walk_at "dy*"
  rw [rangeL_length] at n2
  exact .rtB hbl g2.grb (belL_ruleD as) fun h' e' => ⟨as, rfl, ⟨fun a ha => by
    obtain ⟨i, hi, rfl⟩ := List.getElem_of_mem ha
    exact p2 i _ (List.getElem?_eq_getElem hi), by omega⟩, e'⟩
structure HasDay (T : Tx) : Prop extends HasRule T, HasNames T where
  day : T.fn "_law_day" = some f__law_day
theorem s_day (H : HasDay T) (hc : At T 5 c) (hb : isBox h b) {most : Nat} (h0 : 0 < most) (hm : most ≤ 20) :
    Rt (c.call "_law_day" [.ref b, .int most] [] [] h) fun d h' => ∃ y : Day, d = y.toD ∧ y.ok most ∧ Bx b h h' := by
  obtain ⟨c', hc', e⟩ := hc.enter (vs := [.ref b, .int most]) (ks := []) (ws := []) H.day rfl h
  have hbl := hb.lt
  have hc1 : At T 1 c' := hc'.mono (by omega)
  rw [e]; clear e
  obtain ⟨_, h1, e1, i, rfl, i1, g1⟩ := s_takeN H.toHasTake hc1 (n := 4) hb (by omega) (by omega)
  obtain ⟨t, et, ht⟩ : ∃ t : Nat, [D.int 2, D.int 2, D.int 3, D.int 4][i]? = some (.int t) ∧ 2 ≤ t ∧ t ≤ 4 := by
    obtain ⟨y, ey, o⟩ := pick4 (x0 := .int 2) (x1 := .int 2) (x2 := .int 3) (x3 := .int 4) i1
    rcases o with rfl | rfl | rfl | rfl
    · exact ⟨2, ey, by omega⟩
    · exact ⟨2, ey, by omega⟩
    · exact ⟨3, ey, by omega⟩
    · exact ⟨4, ey, by omega⟩
  obtain ⟨_, h2, e2, w, rfl, w1, g2⟩ := s_takeN H.toHasTake hc1 (n := 3) g1.2.2 (by omega) (by omega)
  obtain ⟨_, h3, e3, j, rfl, j1, g3⟩ := s_takeN H.toHasTake hc1 (n := 8) g2.2.2 (by omega) (by omega)
  obtain ⟨p, ep, hp⟩ : ∃ p : Nat, [D.int 1, D.int 2, D.int 2, D.int 2, D.int 2, D.int 3, D.int 3, D.int (4 + (w : Int))][j]? = some (.int p) ∧ 1 ≤ p ∧ p ≤ 6 := by
    have := pick8 (x0 := 1) (x1 := 2) (x2 := 2) (x3 := 2) (x4 := 2) (x5 := 3) (x6 := 3) (x7 := 4 + w) j1 (fun p => 1 ≤ p ∧ p ≤ 6) (by omega) (by omega) (by omega) (by omega) (by omega) (by omega) (by omega) (by omega)
    rw [show ((4 + w : Nat) : Int) = 4 + (w : Int) by omega] at this
    exact this
  obtain ⟨_, h4, e4, k, rfl, k1, g4⟩ := s_takeN H.toHasTake hc1 (n := 8) g3.2.2 (by omega) (by omega)
  obtain ⟨s, es, hs⟩ : ∃ s : Nat, [D.int 0, D.int 0, D.int 0, D.int 1, D.int 1, D.int 2, D.int 3, D.int 4][k]? = some (.int s) ∧ s ≤ 4 := pick8 (x0 := 0) (x1 := 0) (x2 := 0) (x3 := 1) (x4 := 1) (x5 := 2) (x6 := 3) (x7 := 4) k1 (fun m => m ≤ 4) (by omega) (by omega) (by omega) (by omega) (by omega) (by omega) (by omega) (by omega)
  obtain ⟨m, em, hm1, hm2⟩ : ∃ m : Nat, (if (1 : Int) < (most : Int) - (s : Int) then (most : Int) - (s : Int) else 1) = (m : Int) ∧ 0 < m ∧ m ≤ most := by
    by_cases q : (1 : Int) < (most : Int) - (s : Int)
    · exact ⟨most - s, by rw [if_pos q]; omega, by omega, by omega⟩
    · exact ⟨1, by rw [if_neg q]; rfl, by omega, by omega⟩
  obtain ⟨_, h5, e5, ns, rfl, nk, g5⟩ := s_names H.toHasNames (hc'.mono (by omega)) g4.2.2 hm1 (by omega)
  have gg := g1.trans (g2.trans (g3.trans (g4.trans g5)))
  have hpi : (p : Int) ≤ 1000000 := by omega
  obtain ⟨st, h6, e6, g6, n6, p6⟩ := lc_nm (c := c') (k := 6) (e := x1__law_day) (σ := [some (.ref b), some (.int most), some (.int t), some (.int (4 + (w : Int))), some (.int p), some (.lst (ns.map .str)), none, none, none]) (l := rangeL 0 p) (h := h5) nD (fun _ a => a < t) (Bx b h) (by rw [rangeL_length]; show _ ≤ 16777216; omega) gg (by
    intro i d h hi gi
    obtain ⟨_, h', e, a, rfl, ha, ga⟩ := s_takeN H.toHasTake hc1 (n := t) gi.2.2 (by omega) (by omega)
    simp only [x1__law_day]
    walk_at "dy*"
    exact .ok ⟨a, rfl, by omega, gi.trans ga⟩)
  rw [rangeL_length] at n6
  obtain ⟨bd, h7, e7, g7, n7, p7⟩ := lc_nm (c := c') (k := 8) (e := x2__law_day) (σ := [some (.ref b), some (.int most), some (.int t), some (.int (4 + (w : Int))), some (.int p), some (.lst (ns.map .str)), none, some (.tup (st.map nD)), none]) (l := ns.map .str) (h := h6) hingeD (fun i a => ns[i]? = some a.1 ∧ RuleOk t p a.2) (Bx b h) (by rw [List.length_map]; have := nk.most; show _ ≤ 16777216; omega) g6 (by
    intro i d h hi gi
    obtain ⟨_, h', e, a, rfl, ha, ga⟩ := s_rule H.toHasRule hc' gi.2.2 (t := t) (p := p) (by omega) (by omega) (by omega) (by omega)
    rw [List.getElem?_map] at hi
    obtain ⟨n, hn, rfl⟩ := Option.map_eq_some_iff.mp hi
    simp only [x2__law_day]
    walk_at "dy*"
    exact .ok ⟨(n, a), rfl, ⟨rfl, ha⟩, gi.trans ga⟩)
  have hmm := hm2
  clear hm h0 hm1 hm2
  simp only [f__law_day]
  walk_at "dy*"
  have hlen : st.length = p := by omega
  have hfst : bd.map Prod.fst = ns := by
    refine List.ext_getElem? fun i => ?_
    rw [List.getElem?_map]
    cases q : bd[i]? with
    | none =>
      rw [List.getElem?_eq_none_iff] at q
      rw [n7, List.length_map] at q
      rw [Option.map_none, List.getElem?_eq_none q]
    | some a => rw [(p7 i a q).1]; rfl
  refine .rtB hbl g7.grb (Day.belD ⟨t, st, bd⟩) fun h' e' => ⟨⟨t, st, bd⟩, rfl, ?_, e'⟩
  refine ⟨ht.1, ht.2, by show 1 ≤ st.length; omega, by show st.length ≤ 6; omega, fun x hx => ?_, ?_, fun x hx => ?_⟩
  · obtain ⟨i, hi, rfl⟩ := List.getElem_of_mem hx
    exact p6 i _ (List.getElem?_eq_getElem hi)
  · show NamesOk most (bd.map Prod.fst)
    rw [hfst]
    exact ⟨nk.nodup, nk.ok, nk.some, Nat.le_trans nk.most hmm⟩
  · show RuleOk t st.length x.2
    rw [hlen]
    obtain ⟨i, hi, rfl⟩ := List.getElem_of_mem hx
    exact (p7 i _ (List.getElem?_eq_getElem hi)).2
end Dy
end

section
set_option linter.all false
set_option maxRecDepth 100000
set_option maxHeartbeats 1000000
set_option Elab.async false
namespace Dy
open PySem
local macro_rules | `(tactic| walk_at "dy") => `(tactic| simp -implicitDefEqProofs only [eS_nil, eS_cons, eS_asg, eS_asgS, eS_asgSS, kSS0, kSS1, kSS2, kSS3, kSS4, eS_aug, eS_ex, eS_for, eS_while, eS_if, eS_ret, eS_retN, eS_raise, eS_brk, eS_cnt, eS_pass, eS_try, eS_hnil, kTry_nx, kTry_rt, kTry_bk, kTry_ct, kTry_ex, eS_hyesN, eS_hyes0, eS_hno, calmF_nx, calmF_rt, calmF_bk, calmF_ct, unas_nx, unas_rt, unas_bk, unas_ct, set_end, get_end, eS_frzv, eT, nx_then, eE_nil, eE_cons, eE_var, eE_kn, eE_kb, eE_ki, eE_ks, eE_glo, eE_bin, eE_neg, eE_cmp, eE_cmp2, eE_not, eE_and, eE_or, eE_ife, eE_tup, eE_lst, eE_call, eE_blt, eE_met, eE_isi, eE_sub, eE_sli, eE_rev, eE_lc, eE_listr, eE_rng, eE_enum, eE_zip, kZip, zipD, eE_exf, eE_ise, exM_exc, exOf_ref, kIse_1, kIse_2, kExf_word, kExf_visitor, kExf_case, kExf_row, kExf_atV, kExf_atO, kExf_atP, kExf_names, kExf_many, kExf_wordM, kExf_most, kExf_atB, kExf_name, seqP_p, seqP_t, seqP_l, seqP_r, lsOf_t, lsOf_l, lsOf_d, EC.fs, EC.leaf, eE_frz,
  varM_some, kCons, kCons2, kBin, kNeg, kBl, kCmp, kCmp2, kC21, kC22, kC23, kNot, kNot2, kAnd, kAnd2, kOr, kOr2, kIfe, kIfe2, kLst, kCall, kCall2, kBlt, kMet, kMet2, kIsi, kSub, kSub2, kSli, kSli1, kSli2, kRev, kLc, kLc2, kRng_1, kRng_nat, kRng_2, kEnum, kFrz, ofS_some, kAsg, kNx, kAS1, kAS2, kAS3, kAug, augM, kTru, kFor, kFor2, kIf, kRaise, frzM, frzM2, asTup,
  R.bind_ok, R.bind_ex, R.go_ok, R.go_ex, Fl.then_ex, Fl.turn_ex, Fl.then_nx, Fl.then_rt, Fl.then_bk, Fl.then_ct, Fl.turn_nx, Fl.turn_rt, Fl.turn_bk, Fl.turn_ct, R.opt_some, calm_ok, List.map_cons, List.map_nil, List.length_cons, List.length_nil, List.replicate, List.cons_append, List.nil_append, List.append_nil, List.getElem?_cons_zero, List.getElem?_cons_succ, List.set_cons_zero, List.set_cons_succ,
  subD, cmpD, truthy_non, truthy_bl, truthy_int, truthy_str, truthy_tup, truthy_lst, setT, binD, putD, mkL, mkD, bltD, lenD_str, lenD_tup, lenD_lst, lenD_scr, lenD_ref, lenM_lst, clr, Tg.slots, seqOf_t, seqOf_l, seqOf_r, lstOf_l, lstOf_r, lstM_some, metD, Mt.rcv, Mt.kind, D.isStr, known, Ty.has, Ty.isB, srcOf_t, srcOf_l, srcOf_r, srcM_lst, forS_its, compS_its, eqD_int, eqD_str, eqD_bl, res, D.isNon, intOf, intsOf, boolsOf, strsOf, bdR, Ex.isKn, sliD, revD, addL, attrD, mulOk, pow64, enumL,
  List.all_cons, List.all_nil, List.any_cons, List.any_nil, Option.bind_some, Option.map_some, Option.isSome_some, Bool.and_true, Bool.true_and, Bool.or_false, Bool.false_or, Bool.or_true, Bool.true_or, Bool.and_self, Bool.and_false, Bool.false_and, Bool.not_true, Bool.not_false, Bool.not_not, Bool.false_eq_true, decide_eq_true_eq, decide_true, decide_false, if_true, if_false, ite_true, ite_false, ↓reduceIte, ne_eq, not_true_eq_false, not_false_eq_true, and_self, and_true, true_and,
  natC2, natC3, natC4, natC5, natC6, natC7, natC8, natC9, Int.natCast_zero, Int.natCast_one, cutL_to, cutL_from, cutL_ab, cutL_all, Int.zero_add, natAbs_10, Int.reducePow, atL_nat, Int.natCast_nonneg, natGe, Int.toNat_natCast, List.getElem_cons_zero, atL_nn, Int.le_refl, Int.toNat_zero, Int.reduceLT, Int.reduceLE, Int.reduceToNat, Int.reduceNeg, Int.reduceAdd, Int.reduceMul, Int.reduceSub, Int.reduceEq, Int.reduceBNe, Int.reduceBEq, Nat.reduceAdd, Nat.reduceSub, Nat.reduceLT, Nat.reduceEqDiff, Nat.zero_add, Nat.add_zero, List.getElem?_set_self, List.set_set, List.length_set, List.length_append, Int.reduceNeg, reduceCtorEq])
local macro_rules | `(tactic| walk_at "dy*") => `(tactic| simp -implicitDefEqProofs only [eS_nil, eS_cons, eS_asg, eS_asgS, eS_asgSS, kSS0, kSS1, kSS2, kSS3, kSS4, eS_aug, eS_ex, eS_for, eS_while, eS_if, eS_ret, eS_retN, eS_raise, eS_brk, eS_cnt, eS_pass, eS_try, eS_hnil, kTry_nx, kTry_rt, kTry_bk, kTry_ct, kTry_ex, eS_hyesN, eS_hyes0, eS_hno, calmF_nx, calmF_rt, calmF_bk, calmF_ct, unas_nx, unas_rt, unas_bk, unas_ct, set_end, get_end, eS_frzv, eT, nx_then, eE_nil, eE_cons, eE_var, eE_kn, eE_kb, eE_ki, eE_ks, eE_glo, eE_bin, eE_neg, eE_cmp, eE_cmp2, eE_not, eE_and, eE_or, eE_ife, eE_tup, eE_lst, eE_call, eE_blt, eE_met, eE_isi, eE_sub, eE_sli, eE_rev, eE_lc, eE_listr, eE_rng, eE_enum, eE_zip, kZip, zipD, eE_exf, eE_ise, exM_exc, exOf_ref, kIse_1, kIse_2, kExf_word, kExf_visitor, kExf_case, kExf_row, kExf_atV, kExf_atO, kExf_atP, kExf_names, kExf_many, kExf_wordM, kExf_most, kExf_atB, kExf_name, seqP_p, seqP_t, seqP_l, seqP_r, lsOf_t, lsOf_l, lsOf_d, EC.fs, EC.leaf, eE_frz,
  varM_some, kCons, kCons2, kBin, kNeg, kBl, kCmp, kCmp2, kC21, kC22, kC23, kNot, kNot2, kAnd, kAnd2, kOr, kOr2, kIfe, kIfe2, kLst, kCall, kCall2, kBlt, kMet, kMet2, kIsi, kSub, kSub2, kSli, kSli1, kSli2, kRev, kLc, kLc2, kRng_1, kRng_nat, kRng_2, kEnum, kFrz, ofS_some, kAsg, kNx, kAS1, kAS2, kAS3, kAug, augM, kTru, kFor, kFor2, kIf, kRaise, frzM, frzM2, asTup,
  R.bind_ok, R.bind_ex, R.go_ok, R.go_ex, Fl.then_ex, Fl.turn_ex, Fl.then_nx, Fl.then_rt, Fl.then_bk, Fl.then_ct, Fl.turn_nx, Fl.turn_rt, Fl.turn_bk, Fl.turn_ct, R.opt_some, calm_ok, List.map_cons, List.map_nil, List.length_cons, List.length_nil, List.replicate, List.cons_append, List.nil_append, List.append_nil, List.getElem?_cons_zero, List.getElem?_cons_succ, List.set_cons_zero, List.set_cons_succ,
  subD, cmpD, truthy_non, truthy_bl, truthy_int, truthy_str, truthy_tup, truthy_lst, setT, binD, putD, mkL, mkD, bltD, lenD_str, lenD_tup, lenD_lst, lenD_scr, lenD_ref, lenM_lst, clr, Tg.slots, seqOf_t, seqOf_l, seqOf_r, lstOf_l, lstOf_r, lstM_some, metD, Mt.rcv, Mt.kind, D.isStr, known, Ty.has, Ty.isB, srcOf_t, srcOf_l, srcOf_r, srcM_lst, forS_its, compS_its, eqD_int, eqD_str, eqD_bl, res, D.isNon, intOf, intsOf, boolsOf, strsOf, bdR, Ex.isKn, sliD, revD, addL, attrD, mulOk, pow64, enumL,
  List.all_cons, List.all_nil, List.any_cons, List.any_nil, Option.bind_some, Option.map_some, Option.isSome_some, Bool.and_true, Bool.true_and, Bool.or_false, Bool.false_or, Bool.or_true, Bool.true_or, Bool.and_self, Bool.and_false, Bool.false_and, Bool.not_true, Bool.not_false, Bool.not_not, Bool.false_eq_true, decide_eq_true_eq, decide_true, decide_false, if_true, if_false, ite_true, ite_false, ↓reduceIte, ne_eq, not_true_eq_false, not_false_eq_true, and_self, and_true, true_and,
  natC2, natC3, natC4, natC5, natC6, natC7, natC8, natC9, Int.natCast_zero, Int.natCast_one, cutL_to, cutL_from, cutL_ab, cutL_all, Int.zero_add, natAbs_10, Int.reducePow, atL_nat, Int.natCast_nonneg, natGe, Int.toNat_natCast, List.getElem_cons_zero, atL_nn, Int.le_refl, Int.toNat_zero, Int.reduceLT, Int.reduceLE, Int.reduceToNat, Int.reduceNeg, Int.reduceAdd, Int.reduceMul, Int.reduceSub, Int.reduceEq, Int.reduceBNe, Int.reduceBEq, Nat.reduceAdd, Nat.reduceSub, Nat.reduceLT, Nat.reduceEqDiff, Nat.zero_add, Nat.add_zero, List.getElem?_set_self, List.set_set, List.length_set, List.length_append, Int.reduceNeg, reduceCtorEq, *])
variable {T : Tx} {c : Cl} {h : Hh} {b : Nat}
/-! ### texts of days, shown -/
theorem plL_mapM {α : Type} {f : α → D} {n : Nat} : ∀ {l : List α}, (∀ a ∈ l, (f a).pl n = true) → D.plL (l.map f) n = true
  | [], _ => rfl
  | a :: l, h => by
    simp only [List.map_cons, D.plL, Bool.and_eq_true]
    exact ⟨h a List.mem_cons_self, plL_mapM fun x hx => h x (List.mem_cons_of_mem _ hx)⟩
theorem rkL_map {α : Type} {f : α → D} : ∀ {l : List α}, (∀ a ∈ l, (f a).rk = true) → D.rkL (l.map f) = true
  | [], _ => rfl
  | a :: l, h => by
    simp only [List.map_cons, D.rkL, Bool.and_eq_true]
    exact ⟨h a List.mem_cons_self, rkL_map fun x hx => h x (List.mem_cons_of_mem _ hx)⟩
theorem rszL_map {α : Type} {f : α → D} {m : Nat} : ∀ {l : List α}, (∀ a ∈ l, (f a).rsz + 2 ≤ m) → D.rszL (l.map f) ≤ m * l.length
  | [], _ => Nat.zero_le _
  | a :: l, h => by
    have h1 := h a List.mem_cons_self
    have h2 := rszL_map fun x hx => h x (List.mem_cons_of_mem _ hx)
    simp only [List.map_cons, D.rszL, List.length_cons, Nat.mul_succ]
    omega
theorem nameOk.rk {s : Str} (h : nameOk s) : PyData.strOk s = true := strOk_iff.mpr fun x hx => by have := h.2.2 x hx; omega
theorem nameOk.len {s : Str} (h : nameOk s) : s.length ≤ 6 := by rw [str_len]; exact h.2.1
theorem Act.shw {t p : Nat} {a : Act} (h : a.ok t p) (ht : t ≤ 1000) (hp : p ≤ 1000) : (∀ n, a.toD.pl (n + 1) = true) ∧ a.toD.rk = true ∧ a.toD.rsz ≤ 200 := by
  cases a with
  | swap i j =>
    refine ⟨fun _ => rfl, ?_, by simp only [Act.toD, D.rsz, D.rszL]; decide +kernel⟩
    simp only [Act.toD, D.rk, D.rkL, Bool.and_true, Bool.and_eq_true, decide_eq_true_eq]
    exact ⟨by decide +kernel, by have := h.1; show i < _; omega, by have := h.2.1; show j < _; omega⟩
  | next i =>
    refine ⟨fun _ => rfl, ?_, by simp only [Act.toD, D.rsz, D.rszL]; decide +kernel⟩
    simp only [Act.toD, D.rk, D.rkL, Bool.and_true, Bool.and_eq_true, decide_eq_true_eq]
    exact ⟨by decide +kernel, by have : i < p := h; show i < _; omega⟩
  | put i j =>
    refine ⟨fun _ => rfl, ?_, by simp only [Act.toD, D.rsz, D.rszL]; decide +kernel⟩
    simp only [Act.toD, D.rk, D.rkL, Bool.and_true, Bool.and_eq_true, decide_eq_true_eq]
    exact ⟨by decide +kernel, by have := h.1; show i < _; omega, by have := h.2; show j < _; omega⟩
theorem prD.shw {x : Nat × Nat} (h : x.1 < 1000 ∧ x.2 < 1000) : (∀ n, (prD x).pl (n + 1) = true) ∧ (prD x).rk = true ∧ (prD x).rsz ≤ 200 := by
  refine ⟨fun _ => rfl, ?_, by simp only [prD, D.rsz, D.rszL]; decide⟩
  simp only [prD, D.rk, D.rkL, Bool.and_true, Bool.and_eq_true, decide_eq_true_eq]
  exact ⟨by show x.1 < _; omega, by show x.2 < _; omega⟩
theorem Case.shw {t p : Nat} {k : Case} (h : k.ok t p) (ht : t ≤ 1000) (hp : p ≤ 1000) : (∀ n, k.toD.pl (n + 3) = true) ∧ k.toD.rk = true ∧ k.toD.rsz ≤ 3000 := by
  have hc : ∀ x ∈ k.conds, x.1 < 1000 ∧ x.2 < 1000 := fun x hx => by have := h.conds x hx; omega
  refine ⟨fun n => ?_, ?_, ?_⟩
  · simp only [Case.toD, D.pl, D.plL, Bool.and_true, Bool.and_eq_true]
    exact ⟨plL_mapM fun x hx => (prD.shw (hc x hx)).1 n, plL_mapM fun a ha => (Act.shw (h.acts a ha) ht hp).1 n⟩
  · simp only [Case.toD, D.rk, D.rkL, Bool.and_true, Bool.and_eq_true]
    exact ⟨rkL_map fun x hx => (prD.shw (hc x hx)).2.1, rkL_map fun a ha => (Act.shw (h.acts a ha) ht hp).2.1⟩
  · have h1 := rszL_map (f := prD) (m := 202) (l := k.conds) fun x hx => by have := (prD.shw (hc x hx)).2.2; omega
    have h2 := rszL_map (f := Act.toD) (m := 202) (l := k.acts) fun a ha => by have := (Act.shw (h.acts a ha) ht hp).2.2; omega
    have := h.few
    simp only [Case.toD, D.rsz, D.rszL]
    omega
theorem rule_shw {t p : Nat} {r : List Case} (h : RuleOk t p r) (ht : t ≤ 1000) (hp : p ≤ 1000) : (∀ n, (ruleD r).pl (n + 4) = true) ∧ (ruleD r).rk = true ∧ (ruleD r).rsz ≤ 20000 := by
  refine ⟨fun n => plL_mapM fun k hk => (Case.shw (h.1 k hk) ht hp).1 n, rkL_map fun k hk => (Case.shw (h.1 k hk) ht hp).2.1, ?_⟩
  have h1 := rszL_map (f := Case.toD) (m := 3002) (l := r) fun k hk => by have := (Case.shw (h.1 k hk) ht hp).2.2; omega
  have := h.2
  simp only [ruleD, D.rsz]
  omega
theorem hinge_shw {t p : Nat} {x : Str × List Case} (hn : nameOk x.1) (h : RuleOk t p x.2) (ht : t ≤ 1000) (hp : p ≤ 1000) : (∀ n, (hingeD x).pl (n + 5) = true) ∧ (hingeD x).rk = true ∧ (hingeD x).rsz ≤ 20100 := by
  obtain ⟨h1, h2, h3⟩ := rule_shw h ht hp
  have := hn.len
  refine ⟨fun n => ?_, ?_, ?_⟩
  · simp only [hingeD, D.pl, D.plL, Bool.and_true, Bool.true_and]; exact h1 n
  · simp only [hingeD, D.rk, D.rkL, Bool.and_true, Bool.and_eq_true]; exact ⟨hn.rk, h2⟩
  · simp only [hingeD, D.rsz, D.rszL]; omega
theorem Day.shw {y : Day} {most : Nat} (hy : y.ok most) (hm : most ≤ 100) : y.toD.py = true ∧ y.toD.rk = true ∧ y.toD.rsz ≤ sizeL := by
  have ht := hy.t1
  have hp := hy.p1
  have hh : ∀ x ∈ y.band, (∀ n, (hingeD x).pl (n + 5) = true) ∧ (hingeD x).rk = true ∧ (hingeD x).rsz ≤ 20100 := fun x hx => hinge_shw (hy.names.ok _ (List.mem_map.mpr ⟨x, hx, rfl⟩)) (hy.rules x hx) (by omega) (by omega)
  have hs : ∀ x ∈ y.start, x < 1000000 := fun x hx => by have := hy.start x hx; omega
  have hl : y.band.length ≤ most := by have := hy.names.most; rw [List.length_map] at this; exact this
  refine ⟨?_, ?_, ?_⟩
  · show D.pl (.tup [_, _, _]) 60 = true
    simp only [D.pl, D.plL, Bool.and_true, Bool.true_and, Bool.and_eq_true]
    exact ⟨plL_mapM fun _ _ => rfl, plL_mapM fun x hx => (hh x hx).1 53⟩
  · simp only [Day.toD, D.rk, D.rkL, Bool.and_true, Bool.and_eq_true, decide_eq_true_eq]
    exact ⟨by show y.things < _; omega, rkL_nD y.start hs, rkL_map fun x hx => (hh x hx).2.1⟩
  · have h1 := rszL_map (f := hingeD) (m := 20102) (l := y.band) fun x hx => by have := (hh x hx).2.2; omega
    simp only [Day.toD, D.rsz, D.rszL, rszL_nD]
    show _ ≤ 16777216
    omega
/-! ### a day's hinges -/
structure HasRules (T : Tx) : Prop where
  namesof : T.fn "names_of" = some f_names_of
  ruleof : T.fn "rule_of" = some f_rule_of
abbrev nmD (x : Str × List Case) : D := .str x.1
theorem s_namesof (H : T.fn "names_of" = some f_names_of) (hc : At T 1 c) {y : Day} {most : Nat} (hy : y.ok most) (hm : most ≤ 100) : c.call "names_of" [y.toD] [] [] h = .ok (.tup (y.band.map nmD)) h := by
  obtain ⟨c', hc', e⟩ := hc.enter (vs := [y.toD]) (ks := []) (ws := []) H rfl h
  rw [e]; clear e
  have hl : y.band.length ≤ most := by have := hy.names.most; rw [List.length_map] at this; exact this
  have e2 := lc_map (c := c') (t := .tp (.cons (.nm 1) (.cons (.nm 2) .nil))) (e := x1_names_of) (σ := [some y.toD, none, none]) (h := h) hingeD nmD y.band (by show _ ≤ 16777216; omega) (fun x hx => by
    refine ⟨[some y.toD, some (.str x.1), some (ruleD x.2)], rfl, ?_⟩
    simp only [x1_names_of]
    walk_at "dy*")
  simp only [f_names_of]
  simp only [Day.toD] at e2 ⊢
  walk_at "dy*"
  exact leave_rt0
theorem rule_loop {d : D} {n : Str} : ∀ (bd : List (Str × List Case)) (v2 v3 : Option D), ∃ v2' v3', forL (.tp (.cons (.nm 2) (.cons (.nm 3) .nil))) (exec c b1_rule_of none) (bd.map hingeD) [some d, some (.str n), v2, v3] h = (match bd.lookup n with
      | some r => .rt (ruleD r) h
      | none => .nx [some d, some (.str n), v2', v3'] h)
  | [], v2, v3 => ⟨v2, v3, rfl⟩
  | (m, r) :: bd, v2, v3 => by
    obtain ⟨a, b, e⟩ := rule_loop (d := d) (n := n) bd (some (.str m)) (some (ruleD r))
    refine ⟨a, b, ?_⟩
    have e1 : forL (.tp (.cons (.nm 2) (.cons (.nm 3) .nil))) (exec c b1_rule_of none) ((hingeD (m, r)) :: bd.map hingeD) [some d, some (.str n), v2, v3] h = (exec c b1_rule_of none [some d, some (.str n), some (.str m), some (ruleD r)] h).turn fun σ h => forL (.tp (.cons (.nm 2) (.cons (.nm 3) .nil))) (exec c b1_rule_of none) (bd.map hingeD) σ h := rfl
    rw [List.map_cons, e1, List.lookup_cons]
    by_cases q : m = n
    · have q2 : (n == m) = true := by rw [q]; simp
      rw [q2]
      simp only [b1_rule_of]
      walk_at "dy*"
    · have q2 : (n == m) = false := by rw [beq_eq_false_iff_ne]; exact fun z => q z.symm
      rw [q2]
      simp only [b1_rule_of]
      walk_at "dy*"
      exact e
theorem s_ruleof (H : T.fn "rule_of" = some f_rule_of) (hc : At T 1 c) {y : Day} {n : Str} : c.call "rule_of" [y.toD, .str n] [] [] h = (match y.band.lookup n with
    | some r => .ok (ruleD r) h
    | none => .ex .noName [.str n] h) := by
  obtain ⟨c', hc', e⟩ := hc.enter (vs := [y.toD, .str n]) (ks := []) (ws := []) H rfl h
  rw [e]; clear e
  obtain ⟨v2, v3, e2⟩ := rule_loop (c := c') (h := h) (d := y.toD) (n := n) y.band none none
  simp only [f_rule_of]
  cases q : y.band.lookup n with
  | some r =>
    rw [q] at e2
    simp only [Day.toD] at e2 ⊢
    walk_at "dy*"
    exact leave_rt0
  | none =>
    rw [q] at e2
    simp only [Day.toD] at e2 ⊢
    walk_at "dy*"
    exact leave_ex0
/-! ### a day's hinges as a dict -/
abbrev kvD (x : Str × List Case) : D × D := (.str x.1, ruleD x.2)
theorem pairsOf_band : ∀ bd : List (Str × List Case), pairsOf (bd.map hingeD) = some (bd.map kvD)
  | [] => rfl
  | x :: bd => by
    show (if D.isSc (.str x.1) = true then (pairsOf (bd.map hingeD)).map ((D.str x.1, ruleD x.2) :: ·) else none) = _
    rw [pairsOf_band bd]; rfl
theorem putK_new {k v : D} : ∀ {l : List (D × D)}, (∀ p ∈ l, D.eqv p.1 k = false) → putK k v l = l ++ [(k, v)]
  | [], _ => rfl
  | (a, w) :: r, h => by
    have h1 := h (a, w) List.mem_cons_self
    simp only [putK, h1, Bool.false_eq_true, if_false]
    rw [putK_new fun p hp => h p (List.mem_cons_of_mem _ hp)]; rfl
theorem dictOf_band {bd : List (Str × List Case)} (nd : (bd.map Prod.fst).Nodup) : dictOf (bd.map kvD) = bd.map kvD := by
  have key : ∀ (bd : List (Str × List Case)) (acc : List (Str × List Case)), ((acc ++ bd).map Prod.fst).Nodup → (bd.map kvD).foldl (fun m p => putK p.1 p.2 m) (acc.map kvD) = (acc ++ bd).map kvD := by
    intro bd
    induction bd with
    | nil => intro acc _; simp
    | cons x bd ih =>
      intro acc nd
      simp only [List.map_cons, List.foldl_cons]
      rw [putK_new]
      · have := ih (acc ++ [x]) (by simpa using nd)
        simpa using this
      · intro p hp
        obtain ⟨z, hz, rfl⟩ := List.mem_map.mp hp
        rw [eqv_str, decide_eq_false_iff_not]
        intro e
        rw [List.map_append, List.nodup_append] at nd
        exact nd.2.2 z.1 (List.mem_map.mpr ⟨z, hz, rfl⟩) x.1 (by simp) e
  exact key bd [] (by simpa using nd)
theorem scK_band (bd : List (Str × List Case)) : scK (bd.map kvD) = true := by
  simp [scK]
theorem homK_band (n : Str) (bd : List (Str × List Case)) : homK (.str n) (bd.map kvD) = true := by
  show (if D.isSc (.str n) = true then scK (bd.map kvD) else false) = true
  rw [scK_band]; rfl
theorem getK_band (n : Str) : ∀ bd : List (Str × List Case), getK (.str n) (bd.map kvD) = (bd.lookup n).map ruleD
  | [] => rfl
  | (m, r) :: bd => by
    simp only [List.map_cons, getK, eqv_str, List.lookup_cons]
    by_cases q : m = n
    · subst q; simp
    · have q2 : (n == m) = false := by rw [beq_eq_false_iff_ne]; exact fun z => q z.symm
      rw [q2]
      simp only [q, decide_false, Bool.false_eq_true, if_false]
      exact getK_band n bd
theorem inD_dct (n : Str) (bd : List (Str × List Case)) : inD h (.str n) (.dct (bd.map kvD)) = some (bd.lookup n).isSome := by
  show (if homK (.str n) (bd.map kvD) = true then some (getK (.str n) (bd.map kvD)).isSome else none) = _
  rw [homK_band, getK_band]; simp
theorem subD_dct (n : Str) (bd : List (Str × List Case)) : subD h (.dct (bd.map kvD)) (.str n) = (bd.lookup n).map ruleD := by
  show (if homK (.str n) (bd.map kvD) = true then getK (.str n) (bd.map kvD) else none) = _
  rw [homK_band, getK_band]; simp
theorem lookup_some {α : Type} {n : Str} : ∀ {bd : List (Str × α)}, n ∈ bd.map Prod.fst → ∃ r, bd.lookup n = some r ∧ (n, r) ∈ bd
  | [], h => by simp at h
  | (m, r) :: bd, h => by
    rw [List.lookup_cons]
    by_cases q : n = m
    · subst q; exact ⟨r, by simp, List.mem_cons_self⟩
    · have q2 : (n == m) = false := by rw [beq_eq_false_iff_ne]; exact q
      rw [q2]
      have h : n ∈ bd.map Prod.fst := by
        rcases List.mem_cons.mp (show n ∈ m :: bd.map Prod.fst from h) with h | h
        · exact absurd h q
        · exact h
      obtain ⟨r', e, m'⟩ := lookup_some h
      exact ⟨r', e, List.mem_cons_of_mem _ m'⟩
/-! ### upper -/
theorem upper_ok {s : Str} (h : nameOk s) : s.length ≤ 5592405 ∧ sOk (Txt.upper s) = true := by
  have hl := h.len
  refine ⟨by omega, sOk_iff.mpr ⟨fun x hx => ?_, ?_⟩⟩
  · have key : ∀ c, c < 123 → 97 ≤ c → ∀ y ∈ Unicode.upperOf c, y < 1114112 := by decide +kernel
    have hx : x ∈ ((s.cps.mapIdx fun i c => (Unicode.upperOf c).toArray).flatten).toList := hx
    rw [Array.mem_toList_iff, Array.mem_flatten] at hx
    obtain ⟨l, hl, hx⟩ := hx
    obtain ⟨i, hi, rfl⟩ := Array.mem_mapIdx.mp hl
    have hc := h.2.2 s.cps[i] (by simp)
    exact key _ hc.2 hc.1 x (by simpa using hx)
  · have := PyProof.Rows.len_upper s
    rw [← str_len]
    show _ ≤ 16777216
    omega
theorem lookup_nd {α : Type} : ∀ {bd : List (Str × α)} {x : Str × α}, (bd.map Prod.fst).Nodup → x ∈ bd → bd.lookup x.1 = some x.2
  | [], x, _, h => by cases h
  | (m, r) :: bd, x, nd, h => by
    simp only [List.map_cons, List.nodup_cons] at nd
    rw [List.lookup_cons]
    rcases List.mem_cons.mp h with rfl | h
    · simp
    · have : (x.1 == m) = false := by
        rw [beq_eq_false_iff_ne]
        intro e
        exact nd.1 (by rw [← e]; exact List.mem_map.mpr ⟨x, h, rfl⟩)
      rw [this]
      exact lookup_nd nd.2 h
end Dy
end

section
set_option linter.all false
set_option maxRecDepth 100000
set_option maxHeartbeats 1000000
set_option Elab.async false
namespace Dy
open PySem
local macro_rules | `(tactic| walk_at "dy") => `(tactic| simp -implicitDefEqProofs only [eS_nil, eS_cons, eS_asg, eS_asgS, eS_asgSS, kSS0, kSS1, kSS2, kSS3, kSS4, eS_aug, eS_ex, eS_for, eS_while, eS_if, eS_ret, eS_retN, eS_raise, eS_brk, eS_cnt, eS_pass, eS_try, eS_hnil, kTry_nx, kTry_rt, kTry_bk, kTry_ct, kTry_ex, eS_hyesN, eS_hyes0, eS_hno, calmF_nx, calmF_rt, calmF_bk, calmF_ct, unas_nx, unas_rt, unas_bk, unas_ct, set_end, get_end, eS_frzv, eT, nx_then, eE_nil, eE_cons, eE_var, eE_kn, eE_kb, eE_ki, eE_ks, eE_glo, eE_bin, eE_neg, eE_cmp, eE_cmp2, eE_not, eE_and, eE_or, eE_ife, eE_tup, eE_lst, eE_call, eE_blt, eE_met, eE_isi, eE_sub, eE_sli, eE_rev, eE_lc, eE_listr, eE_rng, eE_enum, eE_zip, kZip, zipD, eE_exf, eE_ise, exM_exc, exOf_ref, kIse_1, kIse_2, kExf_word, kExf_visitor, kExf_case, kExf_row, kExf_atV, kExf_atO, kExf_atP, kExf_names, kExf_many, kExf_wordM, kExf_most, kExf_atB, kExf_name, seqP_p, seqP_t, seqP_l, seqP_r, lsOf_t, lsOf_l, lsOf_d, EC.fs, EC.leaf, eE_frz,
  varM_some, kCons, kCons2, kBin, kNeg, kBl, kCmp, kCmp2, kC21, kC22, kC23, kNot, kNot2, kAnd, kAnd2, kOr, kOr2, kIfe, kIfe2, kLst, kCall, kCall2, kBlt, kMet, kMet2, kIsi, kSub, kSub2, kSli, kSli1, kSli2, kRev, kLc, kLc2, kRng_1, kRng_nat, kRng_2, kEnum, kFrz, ofS_some, kAsg, kNx, kAS1, kAS2, kAS3, kAug, augM, kTru, kFor, kFor2, kIf, kRaise, frzM, frzM2, asTup,
  R.bind_ok, R.bind_ex, R.go_ok, R.go_ex, Fl.then_ex, Fl.turn_ex, Fl.then_nx, Fl.then_rt, Fl.then_bk, Fl.then_ct, Fl.turn_nx, Fl.turn_rt, Fl.turn_bk, Fl.turn_ct, R.opt_some, calm_ok, List.map_cons, List.map_nil, List.length_cons, List.length_nil, List.replicate, List.cons_append, List.nil_append, List.append_nil, List.getElem?_cons_zero, List.getElem?_cons_succ, List.set_cons_zero, List.set_cons_succ,
  subD, cmpD, truthy_non, truthy_bl, truthy_int, truthy_str, truthy_tup, truthy_lst, setT, binD, putD, mkL, mkD, bltD, lenD_str, lenD_tup, lenD_lst, lenD_scr, lenD_ref, lenM_lst, clr, Tg.slots, seqOf_t, seqOf_l, seqOf_r, lstOf_l, lstOf_r, lstM_some, metD, Mt.rcv, Mt.kind, D.isStr, known, Ty.has, Ty.isB, srcOf_t, srcOf_l, srcOf_r, srcM_lst, forS_its, compS_its, eqD_int, eqD_str, eqD_bl, res, D.isNon, intOf, intsOf, boolsOf, strsOf, bdR, Ex.isKn, sliD, revD, addL, attrD, mulOk, pow64, enumL,
  List.all_cons, List.all_nil, List.any_cons, List.any_nil, Option.bind_some, Option.map_some, Option.isSome_some, Bool.and_true, Bool.true_and, Bool.or_false, Bool.false_or, Bool.or_true, Bool.true_or, Bool.and_self, Bool.and_false, Bool.false_and, Bool.not_true, Bool.not_false, Bool.not_not, Bool.false_eq_true, decide_eq_true_eq, decide_true, decide_false, if_true, if_false, ite_true, ite_false, ↓reduceIte, ne_eq, not_true_eq_false, not_false_eq_true, and_self, and_true, true_and,
  natC2, natC3, natC4, natC5, natC6, natC7, natC8, natC9, Int.natCast_zero, Int.natCast_one, cutL_to, cutL_from, cutL_ab, cutL_all, Int.zero_add, natAbs_10, Int.reducePow, atL_nat, Int.natCast_nonneg, natGe, Int.toNat_natCast, List.getElem_cons_zero, atL_nn, Int.le_refl, Int.toNat_zero, Int.reduceLT, Int.reduceLE, Int.reduceToNat, Int.reduceNeg, Int.reduceAdd, Int.reduceMul, Int.reduceSub, Int.reduceEq, Int.reduceBNe, Int.reduceBEq, Nat.reduceAdd, Nat.reduceSub, Nat.reduceLT, Nat.reduceEqDiff, Nat.zero_add, Nat.add_zero, List.getElem?_set_self, List.set_set, List.length_set, List.length_append, Int.reduceNeg, reduceCtorEq])
local macro_rules | `(tactic| walk_at "dy*") => `(tactic| simp -implicitDefEqProofs only [eS_nil, eS_cons, eS_asg, eS_asgS, eS_asgSS, kSS0, kSS1, kSS2, kSS3, kSS4, eS_aug, eS_ex, eS_for, eS_while, eS_if, eS_ret, eS_retN, eS_raise, eS_brk, eS_cnt, eS_pass, eS_try, eS_hnil, kTry_nx, kTry_rt, kTry_bk, kTry_ct, kTry_ex, eS_hyesN, eS_hyes0, eS_hno, calmF_nx, calmF_rt, calmF_bk, calmF_ct, unas_nx, unas_rt, unas_bk, unas_ct, set_end, get_end, eS_frzv, eT, nx_then, eE_nil, eE_cons, eE_var, eE_kn, eE_kb, eE_ki, eE_ks, eE_glo, eE_bin, eE_neg, eE_cmp, eE_cmp2, eE_not, eE_and, eE_or, eE_ife, eE_tup, eE_lst, eE_call, eE_blt, eE_met, eE_isi, eE_sub, eE_sli, eE_rev, eE_lc, eE_listr, eE_rng, eE_enum, eE_zip, kZip, zipD, eE_exf, eE_ise, exM_exc, exOf_ref, kIse_1, kIse_2, kExf_word, kExf_visitor, kExf_case, kExf_row, kExf_atV, kExf_atO, kExf_atP, kExf_names, kExf_many, kExf_wordM, kExf_most, kExf_atB, kExf_name, seqP_p, seqP_t, seqP_l, seqP_r, lsOf_t, lsOf_l, lsOf_d, EC.fs, EC.leaf, eE_frz,
  varM_some, kCons, kCons2, kBin, kNeg, kBl, kCmp, kCmp2, kC21, kC22, kC23, kNot, kNot2, kAnd, kAnd2, kOr, kOr2, kIfe, kIfe2, kLst, kCall, kCall2, kBlt, kMet, kMet2, kIsi, kSub, kSub2, kSli, kSli1, kSli2, kRev, kLc, kLc2, kRng_1, kRng_nat, kRng_2, kEnum, kFrz, ofS_some, kAsg, kNx, kAS1, kAS2, kAS3, kAug, augM, kTru, kFor, kFor2, kIf, kRaise, frzM, frzM2, asTup,
  R.bind_ok, R.bind_ex, R.go_ok, R.go_ex, Fl.then_ex, Fl.turn_ex, Fl.then_nx, Fl.then_rt, Fl.then_bk, Fl.then_ct, Fl.turn_nx, Fl.turn_rt, Fl.turn_bk, Fl.turn_ct, R.opt_some, calm_ok, List.map_cons, List.map_nil, List.length_cons, List.length_nil, List.replicate, List.cons_append, List.nil_append, List.append_nil, List.getElem?_cons_zero, List.getElem?_cons_succ, List.set_cons_zero, List.set_cons_succ,
  subD, cmpD, truthy_non, truthy_bl, truthy_int, truthy_str, truthy_tup, truthy_lst, setT, binD, putD, mkL, mkD, bltD, lenD_str, lenD_tup, lenD_lst, lenD_scr, lenD_ref, lenM_lst, clr, Tg.slots, seqOf_t, seqOf_l, seqOf_r, lstOf_l, lstOf_r, lstM_some, metD, Mt.rcv, Mt.kind, D.isStr, known, Ty.has, Ty.isB, srcOf_t, srcOf_l, srcOf_r, srcM_lst, forS_its, compS_its, eqD_int, eqD_str, eqD_bl, res, D.isNon, intOf, intsOf, boolsOf, strsOf, bdR, Ex.isKn, sliD, revD, addL, attrD, mulOk, pow64, enumL,
  List.all_cons, List.all_nil, List.any_cons, List.any_nil, Option.bind_some, Option.map_some, Option.isSome_some, Bool.and_true, Bool.true_and, Bool.or_false, Bool.false_or, Bool.or_true, Bool.true_or, Bool.and_self, Bool.and_false, Bool.false_and, Bool.not_true, Bool.not_false, Bool.not_not, Bool.false_eq_true, decide_eq_true_eq, decide_true, decide_false, if_true, if_false, ite_true, ite_false, ↓reduceIte, ne_eq, not_true_eq_false, not_false_eq_true, and_self, and_true, true_and,
  natC2, natC3, natC4, natC5, natC6, natC7, natC8, natC9, Int.natCast_zero, Int.natCast_one, cutL_to, cutL_from, cutL_ab, cutL_all, Int.zero_add, natAbs_10, Int.reducePow, atL_nat, Int.natCast_nonneg, natGe, Int.toNat_natCast, List.getElem_cons_zero, atL_nn, Int.le_refl, Int.toNat_zero, Int.reduceLT, Int.reduceLE, Int.reduceToNat, Int.reduceNeg, Int.reduceAdd, Int.reduceMul, Int.reduceSub, Int.reduceEq, Int.reduceBNe, Int.reduceBEq, Nat.reduceAdd, Nat.reduceSub, Nat.reduceLT, Nat.reduceEqDiff, Nat.zero_add, Nat.add_zero, List.getElem?_set_self, List.set_set, List.length_set, List.length_append, Int.reduceNeg, reduceCtorEq, *])
variable {T : Tx} {c : Cl} {h : Hh} {b : Nat}
/-! ### which case matches -/
abbrev rowD (st : List Nat) : D := .tup (st.map nD)
def holds (st : List Nat) (cs : List (Nat × Nat)) : Bool := cs.all fun x => decide (st.getD x.1 0 = x.2)
def matchI (st : List Nat) : Nat → List Case → Option Nat
  | _, [] => none
  | n, k :: r => if holds st k.conds then some n else matchI st (n + 1) r
def optD : Option Nat → D
  | none => .non
  | some i => .int i
theorem matchI_lt {st : List Nat} : ∀ {r : List Case} {n i : Nat}, matchI st n r = some i → i < n + r.length
  | [], n, i, e => by cases e
  | k :: r, n, i, e => by
    simp only [matchI] at e
    split at e
    · cases e; simp
    · have := matchI_lt e; simp only [List.length_cons]; omega
/-- a rule's conditions ask for places of the state -/
def RuleAt (p : Nat) (r : List Case) : Prop := (∀ k ∈ r, (∀ x ∈ k.conds, x.1 < p) ∧ k.conds.length ≤ 6) ∧ r.length ≤ 6
theorem RuleOk.at_ {t p : Nat} {r : List Case} (h : RuleOk t p r) : RuleAt p r := ⟨fun k hk => ⟨fun x hx => ((h.1 k hk).conds x hx).1, (h.1 k hk).few.1⟩, h.2⟩
theorem row_get {s : List Nat} {i : Nat} (hi : i < s.length) : (s.map nD)[i]? = some (.int (s.getD i 0 : Nat)) := by
  rw [List.getElem?_map, List.getElem?_eq_getElem hi, List.getD_eq_getElem?_getD, List.getElem?_eq_getElem hi]
  rfl
theorem eqD_nilL {l : List D} (p : D.pyL l = true) : eqD h (.lst l) (.lst []) = some l.isEmpty := by
  show (if ((D.lst l).py && D.py (.lst [])) = true then some (D.eqv (.lst l) (.lst [])) else none) = _
  have hp : (D.lst l).py = true := p
  rw [hp]
  cases l <;> rfl
theorem s_allhold (H : T.fn "all_hold" = some f_all_hold) (hc : At T 1 c) {cs : List (Nat × Nat)} {st : List Nat} (hl : ∀ x ∈ cs, x.1 < st.length) (sz : cs.length ≤ 1000) : c.call "all_hold" [.tup (cs.map prD), rowD st] [] [] h = .ok (.bl (holds st cs)) h := by
  obtain ⟨c', hc', e⟩ := hc.enter (vs := [.tup (cs.map prD), rowD st]) (ks := []) (ws := []) H rfl h
  rw [e]; clear e
  have e2 := lc_map (c := c') (t := .tp (.cons (.nm 2) (.cons (.nm 3) .nil))) (e := x1_all_hold) (σ := [some (.tup (cs.map prD)), some (rowD st), none, none]) (h := h) prD (fun x => .bl (decide (st.getD x.1 0 = x.2))) cs (by show _ ≤ 16777216; omega) (fun x hx => by
    refine ⟨[some (.tup (cs.map prD)), some (rowD st), some (.int x.1), some (.int x.2)], rfl, ?_⟩
    have g := row_get (hl x hx)
    have q : (((st.getD x.1 0 : Nat) : Int) = (x.2 : Int)) = (st.getD x.1 0 = x.2) := by rw [eq_iff_iff]; omega
    simp only [x1_all_hold, rowD]
    walk_at "dy*")
  have e3 : ∀ cs : List (Nat × Nat), boolsOf (cs.map fun x => D.bl (decide (st.getD x.1 0 = x.2))) = some (cs.map fun x => decide (st.getD x.1 0 = x.2)) := by
    intro cs
    induction cs with
    | nil => rfl
    | cons x cs ih => simp only [List.map_cons, boolsOf, ih, Option.map_some]
  have e4 := e3 cs
  have e5 : (cs.map fun x => decide (st.getD x.1 0 = x.2)).all id = holds st cs := by rw [List.all_map]; rfl
  clear e3
  simp only [f_all_hold]
  walk_at "dy*"
  exact leave_rt0
structure HasMatch (T : Tx) : Prop where
  ruleof : T.fn "rule_of" = some f_rule_of
  allhold : T.fn "all_hold" = some f_all_hold
  mcase : T.fn "matching_case" = some f_matching_case
theorem match_loop (H : HasMatch T) (hc : At T 2 c) {st : List Nat} {d0 d1 : Option D} : ∀ (r : List Case) (n : Nat) (v3 v4 v5 : Option D), RuleAt st.length r → ∃ w3 w4 w5, forL (.tp (.cons (.nm 3) (.cons (.tp (.cons (.nm 4) (.cons (.nm 5) .nil))) .nil))) (exec c b1_matching_case none) (enumL n (r.map Case.toD)) [d0, d1, some (rowD st), v3, v4, v5] h = (match matchI st n r with
      | some i => .rt (.int i) h
      | none => .nx [d0, d1, some (rowD st), w3, w4, w5] h)
  | [], n, v3, v4, v5, _ => ⟨v3, v4, v5, rfl⟩
  | k :: r, n, v3, v4, v5, ho => by
    obtain ⟨a, b, d, e⟩ := match_loop H hc (st := st) (d0 := d0) (d1 := d1) r (n + 1) (some (.int n)) (some (.tup (k.conds.map prD))) (some (.tup (k.acts.map Act.toD))) ⟨fun x hx => ho.1 x (List.mem_cons_of_mem _ hx), by have := ho.2; simp only [List.length_cons] at this; omega⟩
    refine ⟨a, b, d, ?_⟩
    have e1 : forL (.tp (.cons (.nm 3) (.cons (.tp (.cons (.nm 4) (.cons (.nm 5) .nil))) .nil))) (exec c b1_matching_case none) (enumL n ((k :: r).map Case.toD)) [d0, d1, some (rowD st), v3, v4, v5] h = (exec c b1_matching_case none [d0, d1, some (rowD st), some (.int n), some (.tup (k.conds.map prD)), some (.tup (k.acts.map Act.toD))] h).turn fun σ h => forL (.tp (.cons (.nm 3) (.cons (.tp (.cons (.nm 4) (.cons (.nm 5) .nil))) .nil))) (exec c b1_matching_case none) (enumL (n + 1) (r.map Case.toD)) σ h := rfl
    rw [e1]
    clear e1
    have e2 := s_allhold H.allhold (hc.mono (by omega)) (h := h) (st := st) (ho.1 k List.mem_cons_self).1 (by have := (ho.1 k List.mem_cons_self).2; omega)
    simp only [matchI]
    cases q : holds st k.conds with
    | true =>
      rw [q] at e2
      simp only [b1_matching_case]
      walk_at "dy*"
    | false =>
      rw [q] at e2
      simp only [b1_matching_case] at e ⊢
      walk_at "dy*"
theorem s_matching (H : HasMatch T) (hc : At T 3 c) {y : Day} {n : Str} {r : List Case} {st : List Nat} (hr : y.band.lookup n = some r) (ho : RuleAt st.length r) : c.call "matching_case" [y.toD, .str n, rowD st] [] [] h = .ok (optD (matchI st 0 r)) h := by
  obtain ⟨c', hc', e⟩ := hc.enter (vs := [y.toD, .str n, rowD st]) (ks := []) (ws := []) H.mcase rfl h
  rw [e]; clear e
  have e1 := s_ruleof (h := h) (y := y) (n := n) H.ruleof (hc'.mono (by omega))
  rw [hr] at e1
  obtain ⟨a, b, d, e2⟩ := match_loop (h := h) H hc' (st := st) (d0 := some y.toD) (d1 := some (.str n)) r 0 none none none ho
  simp only [ruleD] at e1
  simp only [f_matching_case]
  cases q : matchI st 0 r with
  | some i =>
    rw [q] at e2
    walk_at "dy*"
    exact leave_rt0
  | none =>
    rw [q] at e2
    walk_at "dy*"
    exact leave_rt0
theorem s_matching_no (H : HasMatch T) (hc : At T 3 c) {y : Day} {n : Str} {st : List Nat} (hr : y.band.lookup n = none) : c.call "matching_case" [y.toD, .str n, rowD st] [] [] h = .ex .noName [.str n] h := by
  obtain ⟨c', hc', e⟩ := hc.enter (vs := [y.toD, .str n, rowD st]) (ks := []) (ws := []) H.mcase rfl h
  rw [e]; clear e
  have e1 := s_ruleof (h := h) (y := y) (n := n) H.ruleof (hc'.mono (by omega))
  rw [hr] at e1
  simp only [f_matching_case]
  walk_at "dy*"
  exact leave_ex0
/-! ### another day beside the first -/
structure HasRival (T : Tx) : Prop extends HasRule T where
  rival : T.fn "_law_rival" = some f__law_rival
theorem set_take {α β : Type} (f : α → β) (l : List α) (i : Nat) (v : α) (hi : i < l.length) : (l.map f).take i ++ [f v] ++ (l.map f).drop (i + 1) = (l.set i v).map f := by
  rw [List.set_eq_take_append_cons_drop, if_pos hi, List.map_append, List.map_cons, List.map_take, List.map_drop, List.append_assoc]
  rfl
theorem s_rival (H : HasRival T) (hc : At T 5 c) (hb : isBox h b) {y : Day} {most : Nat} (hy : y.ok most) (hm : most ≤ 100) :
    Rt (c.call "_law_rival" [.ref b, y.toD] [] [] h) fun d h' => ∃ y' : Day, d = y'.toD ∧ y'.ok most ∧ y'.start.length = y.start.length ∧ y'.band.map Prod.fst = y.band.map Prod.fst ∧ y.things ≤ y'.things ∧ Bx b h h' := by
  obtain ⟨c', hc', e⟩ := hc.enter (vs := [.ref b, y.toD]) (ks := []) (ws := []) H.rival rfl h
  have hbl := hb.lt
  have hc1 : At T 1 c' := hc'.mono (by omega)
  rw [e]; clear e
  have hl : y.band.length ≤ most := by have := hy.names.most; rw [List.length_map] at this; exact this
  have hl0 : 0 < y.band.length := by have := hy.names.some; rw [List.length_map] at this; exact this
  have t0 := hy.t0
  have t1 := hy.t1
  have p0 := hy.p0
  have p1 := hy.p1
  obtain ⟨_, h1, e1, i, rfl, i1, g1⟩ := s_takeN H.toHasTake hc1 (n := (y.band.length : Nat)) hb (by omega) (by omega)
  obtain ⟨_, h2, e2, f, rfl, f1, g2⟩ := s_takeN H.toHasTake hc1 (n := 4) g1.2.2 (by omega) (by omega)
  obtain ⟨_, h3, e3, p, rfl, p2, g3⟩ := s_takeN H.toHasTake hc1 (n := (y.start.length : Nat)) g2.2.2 (by omega) (by omega)
  have gg := g1.trans (g2.trans g3)
  have u1 : (y.band.map hingeD).length = y.band.length := List.length_map ..
  have u2 : (y.start.map nD).length = y.start.length := List.length_map ..
  simp only [f__law_rival]
  simp only [Day.toD] at *
  by_cases c1 : (f : Int) = 3 ∧ (y.things : Int) < 4
  · obtain ⟨c1, c2⟩ := c1
    walk_at "dy*"
    refine .rtB hbl gg.grb (Day.belD ⟨y.things + 1, y.start, y.band⟩) fun h' e' => ⟨⟨y.things + 1, y.start, y.band⟩, by simp only [Day.toD]; rfl, ?_, rfl, rfl, Nat.le_succ _, e'⟩
    exact ⟨by show 2 ≤ y.things + 1; omega, by show y.things + 1 ≤ 4; omega, p0, p1, fun x hx => by have := hy.start x hx; show x < y.things + 1; omega, hy.names, fun x hx => ⟨fun k hk => by
      have z := (hy.rules x hx).1 k hk
      refine ⟨fun w hw => by have := z.conds w hw; exact ⟨this.1, by show w.2 < y.things + 1; omega⟩, z.sorted, fun a ha => ?_, z.few⟩
      have := z.acts a ha
      cases a with
      | swap i j => exact this
      | next i => exact this
      | put i j => exact ⟨this.1, by have := this.2; show j < y.things + 1; omega⟩, (hy.rules x hx).2⟩⟩
  · have pp : p < y.start.length := by omega
    have ii : i < y.band.length := by omega
    have q1 := row_get pp
    have q2 : (0 : Int) < y.things := by omega
    have q3 : ((List.map nD y.start).take p).length + 1 ≤ sizeL := by rw [List.length_take, u2]; show _ ≤ 16777216; omega
    have q4 : ((List.map nD y.start).take p).length + 1 + ((List.map nD y.start).drop (p + 1)).length ≤ sizeL := by rw [List.length_take, List.length_drop, u2]; show _ ≤ 16777216; omega
    have q5 : (0 : Int) ≤ p + 1 := by omega
    have q6 : ((p : Int) + 1).toNat = p + 1 := by omega
    have k : ¬ ((f : Int) = 3) ∨ ((f : Int) = 3 ∧ ¬ (y.things : Int) < 4) := by omega
    by_cases c2 : (1 : Int) < f
    · have fin : ∀ {D0 : D}, D0 = .tup [.int y.things, .tup ((List.map nD y.start).take p ++ [.int (((y.start.getD p 0 : Nat) + 1) % (y.things : Int))] ++ (List.map nD y.start).drop (p + 1)), .tup (List.map hingeD y.band)] →
          Rt (leave h (.rt D0 h3)) fun d h' => ∃ y' : Day, d = .tup [.int y'.things, .tup (y'.start.map nD), .tup (y'.band.map hingeD)] ∧ y'.ok most ∧ y'.start.length = y.start.length ∧ y'.band.map Prod.fst = y.band.map Prod.fst ∧ y.things ≤ y'.things ∧ Bx b h h' := by
        rintro D0 rfl
        have v : ((((y.start.getD p 0 : Nat) : Int) + 1) % (y.things : Int)) = (((y.start.getD p 0 + 1) % y.things : Nat) : Int) := by simp
        rw [v, set_take nD y.start p _ pp]
        refine .rtB hbl gg.grb (Day.belD ⟨y.things, y.start.set p _, y.band⟩) fun h' e' => ⟨⟨y.things, y.start.set p ((y.start.getD p 0 + 1) % y.things), y.band⟩, rfl, ?_, by simp, rfl, Nat.le_refl _, e'⟩
        refine ⟨t0, t1, by simpa using p0, by simpa using p1, fun x hx => ?_, hy.names, fun x hx => by simpa using hy.rules x hx⟩
        rcases List.mem_or_eq_of_mem_set hx with hx | rfl
        · exact hy.start x hx
        · exact Nat.mod_lt _ (by omega)
      rcases k with k | ⟨k, k2⟩
      · walk_at "dy*"
      · walk_at "dy*"
    · obtain ⟨_, h4, e4, r, rfl, ro, g4⟩ := s_rule H.toHasRule (hc'.mono (by omega)) g3.2.2 (t := y.things) (p := y.start.length) (by omega) (by omega) (by omega) (by omega)
      have ge := gg.trans g4
      have q7 : (List.map hingeD y.band)[i]? = some (.tup [.str (y.band[i]).1, ruleD (y.band[i]).2]) := by rw [List.getElem?_map, List.getElem?_eq_getElem ii]; rfl
      have q8 : ((List.map hingeD y.band).take i).length + 1 ≤ sizeL := by rw [List.length_take, u1]; show _ ≤ 16777216; omega
      have q9 : ((List.map hingeD y.band).take i).length + 1 + ((List.map hingeD y.band).drop (i + 1)).length ≤ sizeL := by rw [List.length_take, List.length_drop, u1]; show _ ≤ 16777216; omega
      have q10 : (0 : Int) ≤ i + 1 := by omega
      have q11 : ((i : Int) + 1).toNat = i + 1 := by omega
      have fst : (y.band.set i ((y.band[i]).1, r)).map Prod.fst = y.band.map Prod.fst := by
        refine List.ext_getElem (by simp) fun j h1 h2 => ?_
        rw [List.getElem_map, List.getElem_map, List.getElem_set]
        split
        · rename_i z; subst z; rfl
        · rfl
      have fin : ∀ {D0 : D}, D0 = .tup [.int y.things, .tup (List.map nD y.start), .tup ((List.map hingeD y.band).take i ++ [.tup [.str (y.band[i]).1, ruleD r]] ++ (List.map hingeD y.band).drop (i + 1))] →
          Rt (leave h (.rt D0 h4)) fun d h' => ∃ y' : Day, d = .tup [.int y'.things, .tup (y'.start.map nD), .tup (y'.band.map hingeD)] ∧ y'.ok most ∧ y'.start.length = y.start.length ∧ y'.band.map Prod.fst = y.band.map Prod.fst ∧ y.things ≤ y'.things ∧ Bx b h h' := by
        rintro D0 rfl
        have v : (D.tup [.str (y.band[i]).1, ruleD r]) = hingeD ((y.band[i]).1, r) := rfl
        rw [v, set_take hingeD y.band i _ ii]
        refine .rtB hbl ge.grb (Day.belD ⟨y.things, y.start, y.band.set i _⟩) fun h' e' => ⟨⟨y.things, y.start, y.band.set i ((y.band[i]).1, r)⟩, rfl, ?_, rfl, fst, Nat.le_refl _, e'⟩
        refine ⟨t0, t1, p0, p1, hy.start, ?_, fun x hx => ?_⟩
        · show NamesOk most ((y.band.set i ((y.band[i]).1, r)).map Prod.fst)
          rw [fst]; exact hy.names
        · rcases List.mem_or_eq_of_mem_set hx with hx | rfl
          · exact hy.rules x hx
          · exact ro
      rcases k with k | ⟨k, k2⟩
      · walk_at "dy*"
      · omega
/-! ### what the law expects -/
theorem expected_loop {st : List Nat} {d0 : Option D} {F : Fn} {E1 E2 : Ex} {B : St} (hB : B = (.cons (.if_ (.cmp .eq (.lc false E1 (.tp (.cons (.nm 5) (.cons (.nm 6) .nil))) (.var 3) E2) (.lst false .nil)) (.cons (.ret (.var 2)) .nil) .nil) .nil)) (h1 : E1 = .var 5) (h2 : E2 = .cmp .ne (.sub (.var 1) (.var 5)) (.var 6)) : ∀ (r : List Case) (n : Nat) (v2 v3 v4 v5 v6 : Option D), RuleAt st.length r → ∃ w2 w3 w4 w5 w6,
    forL (.tp (.cons (.nm 2) (.cons (.tp (.cons (.nm 3) (.cons (.nm 4) .nil))) .nil))) (exec c B none) (enumL n (r.map Case.toD)) [d0, some (rowD st), v2, v3, v4, v5, v6] h = (match matchI st n r with
      | some i => .rt (.int i) h
      | none => .nx [d0, some (rowD st), w2, w3, w4, w5, w6] h)
  | [], n, v2, v3, v4, v5, v6, _ => ⟨v2, v3, v4, v5, v6, rfl⟩
  | k :: r, n, v2, v3, v4, v5, v6, ho => by
    obtain ⟨a1, a2, a3, a4, a5, e⟩ := expected_loop (st := st) (d0 := d0) (F := F) hB h1 h2 r (n + 1) (some (.int n)) (some (.tup (k.conds.map prD))) (some (.tup (k.acts.map Act.toD))) v5 v6 ⟨fun x hx => ho.1 x (List.mem_cons_of_mem _ hx), by have := ho.2; simp only [List.length_cons] at this; omega⟩
    refine ⟨a1, a2, a3, a4, a5, ?_⟩
    have hk := ho.1 k List.mem_cons_self
    have e2 := lc_filter (c := c) (t := .tp (.cons (.nm 5) (.cons (.nm 6) .nil))) (e := E1) (cd := E2) (σ := [d0, some (rowD st), some (.int n), some (.tup (k.conds.map prD)), some (.tup (k.acts.map Act.toD)), v5, v6]) (h := h) prD (fun x => nD x.1) (fun x => !decide (st.getD x.1 0 = x.2)) k.conds (by show _ ≤ 16777216; omega) (fun x hx => by
      refine ⟨[d0, some (rowD st), some (.int n), some (.tup (k.conds.map prD)), some (.tup (k.acts.map Act.toD)), some (.int x.1), some (.int x.2)], rfl, ?_, fun _ => ?_⟩
      · have g := row_get (hk.1 x hx)
        have q : (((st.getD x.1 0 : Nat) : Int) = (x.2 : Int)) = (st.getD x.1 0 = x.2) := by rw [eq_iff_iff]; omega
        subst h2
        simp only [rowD]
        walk_at "dy*"
      · subst h1
        walk_at "dy*")
    have e3 : ((k.conds.filter fun x => !decide (st.getD x.1 0 = x.2)).map fun x => nD x.1).isEmpty = holds st k.conds := by
      unfold holds
      rw [List.isEmpty_map]
      cases q : k.conds.all fun x => decide (st.getD x.1 0 = x.2) with
      | true =>
        rw [List.isEmpty_iff, List.filter_eq_nil_iff]
        intro x hx
        have := List.all_eq_true.mp q x hx
        simpa using this
      | false =>
        rw [List.isEmpty_eq_false_iff]
        intro z
        rw [List.filter_eq_nil_iff] at z
        have : (k.conds.all fun x => decide (st.getD x.1 0 = x.2)) = true := List.all_eq_true.mpr fun x hx => by simpa using z x hx
        rw [q] at this; cases this
    have e4 := eqD_nilL (h := h) (l := (k.conds.filter fun x => !decide (st.getD x.1 0 = x.2)).map fun x => nD x.1) (pyL_map (fun _ => rfl) _)
    rw [e3] at e4
    have e1 : forL (.tp (.cons (.nm 2) (.cons (.tp (.cons (.nm 3) (.cons (.nm 4) .nil))) .nil))) (exec c B none) (enumL n ((k :: r).map Case.toD)) [d0, some (rowD st), v2, v3, v4, v5, v6] h = (exec c B none [d0, some (rowD st), some (.int n), some (.tup (k.conds.map prD)), some (.tup (k.acts.map Act.toD)), v5, v6] h).turn fun σ h => forL (.tp (.cons (.nm 2) (.cons (.tp (.cons (.nm 3) (.cons (.nm 4) .nil))) .nil))) (exec c B none) (enumL (n + 1) (r.map Case.toD)) σ h := rfl
    rw [e1]
    clear e1 e3
    simp only [matchI]
    generalize ((k.conds.filter fun x => !decide (st.getD x.1 0 = x.2)).map fun x => nD x.1) = fl at e2 e4
    subst hB
    clear h1 h2
    cases q : holds st k.conds with
    | true =>
      rw [q] at e4
      walk_at "dy*"
    | false =>
      rw [q] at e4
      walk_at "dy*"
end Dy
end

section
set_option linter.all false
set_option maxRecDepth 100000
set_option maxHeartbeats 1000000
set_option Elab.async false
namespace Dy
open PySem
local macro_rules | `(tactic| walk_at "dy") => `(tactic| simp -implicitDefEqProofs only [eS_nil, eS_cons, eS_asg, eS_asgS, eS_asgSS, kSS0, kSS1, kSS2, kSS3, kSS4, eS_aug, eS_ex, eS_for, eS_while, eS_if, eS_ret, eS_retN, eS_raise, eS_brk, eS_cnt, eS_pass, eS_try, eS_hnil, kTry_nx, kTry_rt, kTry_bk, kTry_ct, kTry_ex, eS_hyesN, eS_hyes0, eS_hno, calmF_nx, calmF_rt, calmF_bk, calmF_ct, unas_nx, unas_rt, unas_bk, unas_ct, set_end, get_end, eS_frzv, eT, nx_then, eE_nil, eE_cons, eE_var, eE_kn, eE_kb, eE_ki, eE_ks, eE_glo, eE_bin, eE_neg, eE_cmp, eE_cmp2, eE_not, eE_and, eE_or, eE_ife, eE_tup, eE_lst, eE_call, eE_blt, eE_met, eE_isi, eE_sub, eE_sli, eE_rev, eE_lc, eE_listr, eE_rng, eE_enum, eE_zip, kZip, zipD, eE_exf, eE_ise, exM_exc, exOf_ref, kIse_1, kIse_2, kExf_word, kExf_visitor, kExf_case, kExf_row, kExf_atV, kExf_atO, kExf_atP, kExf_names, kExf_many, kExf_wordM, kExf_most, kExf_atB, kExf_name, seqP_p, seqP_t, seqP_l, seqP_r, lsOf_t, lsOf_l, lsOf_d, EC.fs, EC.leaf, eE_frz,
  varM_some, kCons, kCons2, kBin, kNeg, kBl, kCmp, kCmp2, kC21, kC22, kC23, kNot, kNot2, kAnd, kAnd2, kOr, kOr2, kIfe, kIfe2, kLst, kCall, kCall2, kBlt, kMet, kMet2, kIsi, kSub, kSub2, kSli, kSli1, kSli2, kRev, kLc, kLc2, kRng_1, kRng_nat, kRng_2, kEnum, kFrz, ofS_some, kAsg, kNx, kAS1, kAS2, kAS3, kAug, augM, kTru, kFor, kFor2, kIf, kRaise, frzM, frzM2, asTup,
  R.bind_ok, R.bind_ex, R.go_ok, R.go_ex, Fl.then_ex, Fl.turn_ex, Fl.then_nx, Fl.then_rt, Fl.then_bk, Fl.then_ct, Fl.turn_nx, Fl.turn_rt, Fl.turn_bk, Fl.turn_ct, R.opt_some, calm_ok, List.map_cons, List.map_nil, List.length_cons, List.length_nil, List.replicate, List.cons_append, List.nil_append, List.append_nil, List.getElem?_cons_zero, List.getElem?_cons_succ, List.set_cons_zero, List.set_cons_succ,
  subD, cmpD, truthy_non, truthy_bl, truthy_int, truthy_str, truthy_tup, truthy_lst, setT, binD, putD, mkL, mkD, bltD, lenD_str, lenD_tup, lenD_lst, lenD_scr, lenD_ref, lenM_lst, clr, Tg.slots, seqOf_t, seqOf_l, seqOf_r, lstOf_l, lstOf_r, lstM_some, metD, Mt.rcv, Mt.kind, D.isStr, known, Ty.has, Ty.isB, srcOf_t, srcOf_l, srcOf_r, srcM_lst, forS_its, compS_its, eqD_int, eqD_str, eqD_bl, res, D.isNon, intOf, intsOf, boolsOf, strsOf, bdR, Ex.isKn, sliD, revD, addL, attrD, mulOk, pow64, enumL,
  List.all_cons, List.all_nil, List.any_cons, List.any_nil, Option.bind_some, Option.map_some, Option.isSome_some, Bool.and_true, Bool.true_and, Bool.or_false, Bool.false_or, Bool.or_true, Bool.true_or, Bool.and_self, Bool.and_false, Bool.false_and, Bool.not_true, Bool.not_false, Bool.not_not, Bool.false_eq_true, decide_eq_true_eq, decide_true, decide_false, if_true, if_false, ite_true, ite_false, ↓reduceIte, ne_eq, not_true_eq_false, not_false_eq_true, and_self, and_true, true_and,
  natC2, natC3, natC4, natC5, natC6, natC7, natC8, natC9, Int.natCast_zero, Int.natCast_one, cutL_to, cutL_from, cutL_ab, cutL_all, Int.zero_add, natAbs_10, Int.reducePow, atL_nat, Int.natCast_nonneg, natGe, Int.toNat_natCast, List.getElem_cons_zero, atL_nn, Int.le_refl, Int.toNat_zero, Int.reduceLT, Int.reduceLE, Int.reduceToNat, Int.reduceNeg, Int.reduceAdd, Int.reduceMul, Int.reduceSub, Int.reduceEq, Int.reduceBNe, Int.reduceBEq, Nat.reduceAdd, Nat.reduceSub, Nat.reduceLT, Nat.reduceEqDiff, Nat.zero_add, Nat.add_zero, List.getElem?_set_self, List.set_set, List.length_set, List.length_append, Int.reduceNeg, reduceCtorEq])
local macro_rules | `(tactic| walk_at "dy*") => `(tactic| simp -implicitDefEqProofs only [eS_nil, eS_cons, eS_asg, eS_asgS, eS_asgSS, kSS0, kSS1, kSS2, kSS3, kSS4, eS_aug, eS_ex, eS_for, eS_while, eS_if, eS_ret, eS_retN, eS_raise, eS_brk, eS_cnt, eS_pass, eS_try, eS_hnil, kTry_nx, kTry_rt, kTry_bk, kTry_ct, kTry_ex, eS_hyesN, eS_hyes0, eS_hno, calmF_nx, calmF_rt, calmF_bk, calmF_ct, unas_nx, unas_rt, unas_bk, unas_ct, set_end, get_end, eS_frzv, eT, nx_then, eE_nil, eE_cons, eE_var, eE_kn, eE_kb, eE_ki, eE_ks, eE_glo, eE_bin, eE_neg, eE_cmp, eE_cmp2, eE_not, eE_and, eE_or, eE_ife, eE_tup, eE_lst, eE_call, eE_blt, eE_met, eE_isi, eE_sub, eE_sli, eE_rev, eE_lc, eE_listr, eE_rng, eE_enum, eE_zip, kZip, zipD, eE_exf, eE_ise, exM_exc, exOf_ref, kIse_1, kIse_2, kExf_word, kExf_visitor, kExf_case, kExf_row, kExf_atV, kExf_atO, kExf_atP, kExf_names, kExf_many, kExf_wordM, kExf_most, kExf_atB, kExf_name, seqP_p, seqP_t, seqP_l, seqP_r, lsOf_t, lsOf_l, lsOf_d, EC.fs, EC.leaf, eE_frz,
  varM_some, kCons, kCons2, kBin, kNeg, kBl, kCmp, kCmp2, kC21, kC22, kC23, kNot, kNot2, kAnd, kAnd2, kOr, kOr2, kIfe, kIfe2, kLst, kCall, kCall2, kBlt, kMet, kMet2, kIsi, kSub, kSub2, kSli, kSli1, kSli2, kRev, kLc, kLc2, kRng_1, kRng_nat, kRng_2, kEnum, kFrz, ofS_some, kAsg, kNx, kAS1, kAS2, kAS3, kAug, augM, kTru, kFor, kFor2, kIf, kRaise, frzM, frzM2, asTup,
  R.bind_ok, R.bind_ex, R.go_ok, R.go_ex, Fl.then_ex, Fl.turn_ex, Fl.then_nx, Fl.then_rt, Fl.then_bk, Fl.then_ct, Fl.turn_nx, Fl.turn_rt, Fl.turn_bk, Fl.turn_ct, R.opt_some, calm_ok, List.map_cons, List.map_nil, List.length_cons, List.length_nil, List.replicate, List.cons_append, List.nil_append, List.append_nil, List.getElem?_cons_zero, List.getElem?_cons_succ, List.set_cons_zero, List.set_cons_succ,
  subD, cmpD, truthy_non, truthy_bl, truthy_int, truthy_str, truthy_tup, truthy_lst, setT, binD, putD, mkL, mkD, bltD, lenD_str, lenD_tup, lenD_lst, lenD_scr, lenD_ref, lenM_lst, clr, Tg.slots, seqOf_t, seqOf_l, seqOf_r, lstOf_l, lstOf_r, lstM_some, metD, Mt.rcv, Mt.kind, D.isStr, known, Ty.has, Ty.isB, srcOf_t, srcOf_l, srcOf_r, srcM_lst, forS_its, compS_its, eqD_int, eqD_str, eqD_bl, res, D.isNon, intOf, intsOf, boolsOf, strsOf, bdR, Ex.isKn, sliD, revD, addL, attrD, mulOk, pow64, enumL,
  List.all_cons, List.all_nil, List.any_cons, List.any_nil, Option.bind_some, Option.map_some, Option.isSome_some, Bool.and_true, Bool.true_and, Bool.or_false, Bool.false_or, Bool.or_true, Bool.true_or, Bool.and_self, Bool.and_false, Bool.false_and, Bool.not_true, Bool.not_false, Bool.not_not, Bool.false_eq_true, decide_eq_true_eq, decide_true, decide_false, if_true, if_false, ite_true, ite_false, ↓reduceIte, ne_eq, not_true_eq_false, not_false_eq_true, and_self, and_true, true_and,
  natC2, natC3, natC4, natC5, natC6, natC7, natC8, natC9, Int.natCast_zero, Int.natCast_one, cutL_to, cutL_from, cutL_ab, cutL_all, Int.zero_add, natAbs_10, Int.reducePow, atL_nat, Int.natCast_nonneg, natGe, Int.toNat_natCast, List.getElem_cons_zero, atL_nn, Int.le_refl, Int.toNat_zero, Int.reduceLT, Int.reduceLE, Int.reduceToNat, Int.reduceNeg, Int.reduceAdd, Int.reduceMul, Int.reduceSub, Int.reduceEq, Int.reduceBNe, Int.reduceBEq, Nat.reduceAdd, Nat.reduceSub, Nat.reduceLT, Nat.reduceEqDiff, Nat.zero_add, Nat.add_zero, List.getElem?_set_self, List.set_set, List.length_set, List.length_append, Int.reduceNeg, reduceCtorEq, *])
variable {T : Tx} {c : Cl} {h : Hh} {b : Nat}
/-! ### visitors act -/
def actV (t : Nat) : Act → List Nat → List Nat
  | .swap p q, st => (st.set p (st.getD q 0)).set q (st.getD p 0)
  | .next p, st => st.set p ((st.getD p 0 + 1) % t)
  | .put p x, st => st.set p x
def ActAt (p : Nat) : Act → Prop
  | .swap i j => i < p ∧ j < p
  | .next i => i < p
  | .put i _ => i < p
theorem actV_len {t : Nat} {a : Act} {st : List Nat} : (actV t a st).length = st.length := by cases a <;> simp [actV]
theorem Act.ok.at_ {t p : Nat} {a : Act} (h : a.ok t p) : ActAt p a := by
  cases a with
  | swap i j => exact ⟨h.1, h.2.1⟩
  | next i => exact h
  | put i j => exact h.1
theorem set_map {st : List Nat} {i v : Nat} : (st.map nD).set i (.int v) = (st.set i v).map nD := by rw [List.map_set]
theorem rowD_bel {n : Nat} (st : List Nat) : (rowD st).bel n = true := bel_nD st
theorem s_acted (H : T.fn "acted" = some f_acted) (hc : At T 1 c) {y : Day} {a : Act} {st : List Nat} (ha : ActAt st.length a) (ht : 0 < y.things) : c.call "acted" [y.toD, a.toD, rowD st] [] [] h = .ok (rowD (actV y.things a st)) h := by
  obtain ⟨c', hc', e⟩ := hc.enter (vs := [y.toD, a.toD, rowD st]) (ks := []) (ws := []) H rfl h
  rw [e]; clear e
  have q2 : (0 : Int) < y.things := by omega
  have n1 : (Str.ofString "put" = Str.ofString "next") = False := by simp only [eq_iff_iff, iff_false]; decide +kernel
  have n2 : (Str.ofString "swap" = Str.ofString "next") = False := by simp only [eq_iff_iff, iff_false]; decide +kernel
  have n3 : (Str.ofString "swap" = Str.ofString "put") = False := by simp only [eq_iff_iff, iff_false]; decide +kernel
  simp only [f_acted, rowD, Day.toD]
  cases a with
  | next p =>
    have hp : p < (List.map nD st).length := by rw [List.length_map]; exact ha
    have g := row_get (s := st) (i := p) ha
    have v : ((((st.getD p 0 : Nat) : Int) + 1) % (y.things : Int)) = (((st.getD p 0 + 1) % y.things : Nat) : Int) := by simp
    simp only [Act.toD]
    walk_at "dy*"
    rw [set_map]
    exact leave_rt Gr.app (rowD_bel _)
  | put p x =>
    have hp : p < (List.map nD st).length := by rw [List.length_map]; exact ha
    simp only [Act.toD]
    walk_at "dy*"
    rw [set_map]
    exact leave_rt Gr.app (rowD_bel _)
  | swap p q =>
    have hp : p < (List.map nD st).length := by rw [List.length_map]; exact ha.1
    have hq : q < (List.map nD st).length := by rw [List.length_map]; exact ha.2
    have g := row_get (s := st) (i := p) ha.1
    have g2 := row_get (s := st) (i := q) ha.2
    simp only [Act.toD]
    walk_at "dy*"
    rw [set_map, set_map]
    exact leave_rt Gr.app (rowD_bel _)
def actsV (t : Nat) (acts : List Act) (st : List Nat) : List Nat := acts.foldl (fun s a => actV t a s) st
theorem actsV_len {t : Nat} : ∀ {acts : List Act} {st : List Nat}, (actsV t acts st).length = st.length
  | [], st => rfl
  | a :: acts, st => by
    show (actsV t acts (actV t a st)).length = _
    rw [actsV_len, actV_len]
/-- where a visitor takes a state -/
def visitV (t : Nat) (st : List Nat) : List Case → List Nat
  | [] => st
  | k :: r => if holds st k.conds then actsV t k.acts st else visitV t st r
theorem visitV_len {t : Nat} {st : List Nat} : ∀ {r : List Case}, (visitV t st r).length = st.length
  | [] => rfl
  | k :: r => by
    simp only [visitV]
    split
    · exact actsV_len
    · exact visitV_len
theorem visitV_no {t : Nat} {st : List Nat} : ∀ {r : List Case} {n : Nat}, matchI st n r = none → visitV t st r = st
  | [], n, _ => rfl
  | k :: r, n, e => by
    simp only [matchI] at e
    split at e
    · cases e
    · rename_i q
      simp only [visitV, if_neg q]
      exact visitV_no e
theorem visitV_at {t : Nat} {st : List Nat} : ∀ {r : List Case} {n i : Nat}, matchI st n r = some i → ∃ k, r[i - n]? = some k ∧ n ≤ i ∧ visitV t st r = actsV t k.acts st ∧ k ∈ r
  | [], n, i, e => by cases e
  | k :: r, n, i, e => by
    simp only [matchI] at e
    split at e
    · rename_i q
      cases e
      exact ⟨k, by simp, Nat.le_refl _, by simp only [visitV, if_pos q], List.mem_cons_self⟩
    · rename_i q
      obtain ⟨k', e1, e2, e3, e4⟩ := visitV_at (t := t) e
      refine ⟨k', ?_, by omega, by simp only [visitV, if_neg q]; exact e3, List.mem_cons_of_mem _ e4⟩
      rw [show i - n = (i - (n + 1)) + 1 by omega]
      simpa using e1
/-- a rule fit for states of that length -/
def RuleFit (p : Nat) (r : List Case) : Prop := RuleAt p r ∧ ∀ k ∈ r, ∀ a ∈ k.acts, ActAt p a
theorem RuleOk.fit {t p : Nat} {r : List Case} (h : RuleOk t p r) : RuleFit p r := ⟨h.at_, fun k hk a ha => ((h.1 k hk).acts a ha).at_⟩
structure HasVisit (T : Tx) : Prop extends HasMatch T where
  acted : T.fn "acted" = some f_acted
  visited : T.fn "visited" = some f_visited
theorem visit_loop (H : T.fn "acted" = some f_acted) (hc : At T 1 c) {y : Day} (ht : 0 < y.things) {d1 d3 : Option D} : ∀ (acts : List Act) (st : List Nat) (v4 : Option D), (∀ a ∈ acts, ActAt st.length a) → ∃ w4,
    forL (.nm 4) (exec c b1_visited none) (acts.map Act.toD) [some y.toD, d1, some (rowD st), d3, v4] h = .nx [some y.toD, d1, some (rowD (actsV y.things acts st)), d3, w4] h
  | [], st, v4, _ => ⟨v4, rfl⟩
  | a :: acts, st, v4, ha => by
    obtain ⟨w4, e⟩ := visit_loop H hc ht (d1 := d1) (d3 := d3) acts (actV y.things a st) (some a.toD) (fun x hx => by rw [actV_len]; exact ha x (List.mem_cons_of_mem _ hx))
    refine ⟨w4, ?_⟩
    have e1 := s_acted H hc (h := h) (y := y) (ha a List.mem_cons_self) ht
    have e2 : exec c b1_visited none [some y.toD, d1, some (rowD st), d3, some a.toD] h = .nx [some y.toD, d1, some (rowD (actV y.things a st)), d3, some a.toD] h := by
      simp only [b1_visited]
      walk_at "dy*"
    show (exec c b1_visited none [some y.toD, d1, some (rowD st), d3, some a.toD] h).turn _ = _
    rw [e2]
    exact e
theorem s_visited (H : HasVisit T) (hc : At T 4 c) {y : Day} {n : Str} {r : List Case} {st : List Nat} (hr : y.band.lookup n = some r) (ho : RuleFit st.length r) (ht : 0 < y.things) : c.call "visited" [y.toD, .str n, rowD st] [] [] h = .ok (rowD (visitV y.things st r)) h := by
  obtain ⟨c', hc', e⟩ := hc.enter (vs := [y.toD, .str n, rowD st]) (ks := []) (ws := []) H.visited rfl h
  rw [e]; clear e
  have e1 := s_matching H.toHasMatch hc' (h := h) hr ho.1
  have e2 := s_ruleof (h := h) (y := y) (n := n) H.ruleof (hc'.mono (by omega))
  rw [hr] at e2
  simp only [ruleD] at e2
  simp only [f_visited]
  cases q : matchI st 0 r with
  | none =>
    rw [q] at e1
    simp only [optD] at e1
    rw [visitV_no q]
    walk_at "dy*"
    exact leave_rt0
  | some i =>
    rw [q] at e1
    simp only [optD] at e1
    obtain ⟨k, k1, _, k3, k4⟩ := visitV_at (t := y.things) q
    rw [Nat.sub_zero] at k1
    obtain ⟨w4, e3⟩ := visit_loop H.acted (hc'.mono (by omega)) (h := h) ht (d1 := some (.str n)) (d3 := some (.int i)) k.acts st none (ho.2 k k4)
    have g : (List.map Case.toD r)[i]? = some (.tup [.tup (k.conds.map prD), .tup (k.acts.map Act.toD)]) := by rw [List.getElem?_map, k1]; rfl
    rw [k3]
    walk_at "dy*"
    exact leave_rt0
theorem s_visited_no (H : HasVisit T) (hc : At T 4 c) {y : Day} {n : Str} {st : List Nat} (hr : y.band.lookup n = none) : c.call "visited" [y.toD, .str n, rowD st] [] [] h = .ex .noName [.str n] h := by
  obtain ⟨c', hc', e⟩ := hc.enter (vs := [y.toD, .str n, rowD st]) (ks := []) (ws := []) H.visited rfl h
  rw [e]; clear e
  have e1 := s_matching_no H.toHasMatch hc' (h := h) (st := st) hr
  simp only [f_visited]
  walk_at "dy*"
  exact leave_ex0
/-! ### the law's own visitors -/
structure HasLVisit (T : Tx) : Prop where
  lacted : T.fn "_law_acted" = some f__law_acted
  lvisited : T.fn "_law_visited" = some f__law_visited
theorem s_lacted (H : T.fn "_law_acted" = some f__law_acted) (hc : At T 1 c) {y : Day} {a : Act} {st : List Nat} (ha : ActAt st.length a) (ht : 0 < y.things) : c.call "_law_acted" [y.toD, a.toD, rowD st] [] [] h = .ok (rowD (actV y.things a st)) h := by
  obtain ⟨c', hc', e⟩ := hc.enter (vs := [y.toD, a.toD, rowD st]) (ks := []) (ws := []) H rfl h
  rw [e]; clear e
  have q2 : (0 : Int) < y.things := by omega
  have n1 : (Str.ofString "next" = Str.ofString "put") = False := by simp only [eq_iff_iff, iff_false]; decide +kernel
  have n2 : (Str.ofString "swap" = Str.ofString "next") = False := by simp only [eq_iff_iff, iff_false]; decide +kernel
  have n3 : (Str.ofString "swap" = Str.ofString "put") = False := by simp only [eq_iff_iff, iff_false]; decide +kernel
  simp only [f__law_acted, rowD, Day.toD]
  cases a with
  | next p =>
    have hp : p < (List.map nD st).length := by rw [List.length_map]; exact ha
    have g := row_get (s := st) (i := p) ha
    have v : ((((st.getD p 0 : Nat) : Int) + 1) % (y.things : Int)) = (((st.getD p 0 + 1) % y.things : Nat) : Int) := by simp
    simp only [Act.toD]
    walk_at "dy*"
    rw [set_map]
    exact leave_rt Gr.app (rowD_bel _)
  | put p x =>
    have hp : p < (List.map nD st).length := by rw [List.length_map]; exact ha
    simp only [Act.toD]
    walk_at "dy*"
    rw [set_map]
    exact leave_rt Gr.app (rowD_bel _)
  | swap p q =>
    have hp : p < (List.map nD st).length := by rw [List.length_map]; exact ha.1
    have hq : q < (List.map nD st).length := by rw [List.length_map]; exact ha.2
    have g := row_get (s := st) (i := p) ha.1
    have g2 := row_get (s := st) (i := q) ha.2
    simp only [Act.toD]
    walk_at "dy*"
    simp only [List.drop_succ_cons, List.drop_zero]
    walk_at "dy*"
    rw [set_map, set_map]
    exact leave_rt Gr.app (rowD_bel _)
theorem lvisit_acts (H : T.fn "_law_acted" = some f__law_acted) (hc : At T 1 c) {y : Day} (ht : 0 < y.things) {d1 d3 d4 d5 d6 : Option D} : ∀ (acts : List Act) (st : List Nat) (v7 : Option D), (∀ a ∈ acts, ActAt st.length a) → ∃ w7,
    forL (.nm 7) (exec c b1__law_visited none) (acts.map Act.toD) [some y.toD, d1, some (rowD st), d3, d4, d5, d6, v7] h = .nx [some y.toD, d1, some (rowD (actsV y.things acts st)), d3, d4, d5, d6, w7] h
  | [], st, v7, _ => ⟨v7, rfl⟩
  | a :: acts, st, v7, ha => by
    obtain ⟨w7, e⟩ := lvisit_acts H hc ht (d1 := d1) (d3 := d3) (d4 := d4) (d5 := d5) (d6 := d6) acts (actV y.things a st) (some a.toD) (fun x hx => by rw [actV_len]; exact ha x (List.mem_cons_of_mem _ hx))
    refine ⟨w7, ?_⟩
    have e1 := s_lacted H hc (h := h) (y := y) (ha a List.mem_cons_self) ht
    have e2 : exec c b1__law_visited none [some y.toD, d1, some (rowD st), d3, d4, d5, d6, some a.toD] h = .nx [some y.toD, d1, some (rowD (actV y.things a st)), d3, d4, d5, d6, some a.toD] h := by
      simp only [b1__law_visited]
      walk_at "dy*"
    show (exec c b1__law_visited none [some y.toD, d1, some (rowD st), d3, d4, d5, d6, some a.toD] h).turn _ = _
    rw [e2]
    exact e
theorem boolsOf_map {α : Type} (f : α → Bool) : ∀ l : List α, boolsOf (l.map fun x => D.bl (f x)) = some (l.map f)
  | [] => rfl
  | x :: l => by simp only [List.map_cons, boolsOf, boolsOf_map f l, Option.map_some]
theorem lvisit_loop (H : T.fn "_law_acted" = some f__law_acted) (hc : At T 1 c) {y : Day} (ht : 0 < y.things) {st : List Nat} {d1 : Option D} : ∀ (r : List Case) (v3 v4 v5 v6 v7 : Option D), RuleFit st.length r → ∃ w3 w4 w5 w6 w7,
    forL (.tp (.cons (.nm 3) (.cons (.nm 4) .nil))) (exec c b2__law_visited none) (r.map Case.toD) [some y.toD, d1, some (rowD st), v3, v4, v5, v6, v7] h = (if (matchI st 0 r).isSome then .rt (rowD (visitV y.things st r)) h else .nx [some y.toD, d1, some (rowD st), w3, w4, w5, w6, w7] h)
  | [], v3, v4, v5, v6, v7, _ => ⟨v3, v4, v5, v6, v7, rfl⟩
  | k :: r, v3, v4, v5, v6, v7, ho => by
    obtain ⟨a1, a2, a3, a4, a5, e⟩ := lvisit_loop H hc ht (st := st) (d1 := d1) r (some (.tup (k.conds.map prD))) (some (.tup (k.acts.map Act.toD))) v5 v6 v7 ⟨⟨fun x hx => ho.1.1 x (List.mem_cons_of_mem _ hx), by have := ho.1.2; simp only [List.length_cons] at this; omega⟩, fun x hx => ho.2 x (List.mem_cons_of_mem _ hx)⟩
    refine ⟨a1, a2, a3, a4, a5, ?_⟩
    have hk := ho.1.1 k List.mem_cons_self
    have e2 := lc_map (c := c) (t := .tp (.cons (.nm 5) (.cons (.nm 6) .nil))) (e := x1__law_visited) (σ := [some y.toD, d1, some (rowD st), some (.tup (k.conds.map prD)), some (.tup (k.acts.map Act.toD)), v5, v6, v7]) (h := h) prD (fun x => .bl (decide (st.getD x.1 0 = x.2))) k.conds (by have := hk.2; show _ ≤ 16777216; omega) (fun x hx => by
      refine ⟨[some y.toD, d1, some (rowD st), some (.tup (k.conds.map prD)), some (.tup (k.acts.map Act.toD)), some (.int x.1), some (.int x.2), v7], rfl, ?_⟩
      have g := row_get (hk.1 x hx)
      have q : (((st.getD x.1 0 : Nat) : Int) = (x.2 : Int)) = (st.getD x.1 0 = x.2) := by rw [eq_iff_iff]; omega
      simp only [x1__law_visited, rowD]
      walk_at "dy*")
    have e4 := boolsOf_map (fun x : Nat × Nat => decide (st.getD x.1 0 = x.2)) k.conds
    have e5 : (k.conds.map fun x => decide (st.getD x.1 0 = x.2)).all id = holds st k.conds := by rw [List.all_map]; rfl
    obtain ⟨w7, e6⟩ := lvisit_acts H hc (h := h) ht (d1 := d1) (d3 := some (.tup (k.conds.map prD))) (d4 := some (.tup (k.acts.map Act.toD))) (d5 := v5) (d6 := v6) k.acts st v7 (ho.2 k List.mem_cons_self)
    have sh : ∀ (n : Nat) (r : List Case), (matchI st n r).isSome = (matchI st 0 r).isSome := by
      have : ∀ (r : List Case) (n m : Nat), (matchI st n r).isSome = (matchI st m r).isSome := by
        intro r
        induction r with
        | nil => intro n m; rfl
        | cons k r ih => intro n m; simp only [matchI]; split <;> first | rfl | exact ih _ _
      exact fun n r => this r n 0
    have sh1 := sh 1 r
    clear sh
    have e1 : forL (.tp (.cons (.nm 3) (.cons (.nm 4) .nil))) (exec c b2__law_visited none) ((k :: r).map Case.toD) [some y.toD, d1, some (rowD st), v3, v4, v5, v6, v7] h = (exec c b2__law_visited none [some y.toD, d1, some (rowD st), some (.tup (k.conds.map prD)), some (.tup (k.acts.map Act.toD)), v5, v6, v7] h).turn fun σ h => forL (.tp (.cons (.nm 3) (.cons (.nm 4) .nil))) (exec c b2__law_visited none) (r.map Case.toD) σ h := rfl
    rw [e1]
    clear e1
    simp only [matchI, visitV, Nat.zero_add]
    cases q : holds st k.conds with
    | true =>
      rw [q] at e5
      have e7 : exec c b2__law_visited none [some y.toD, d1, some (rowD st), some (.tup (k.conds.map prD)), some (.tup (k.acts.map Act.toD)), v5, v6, v7] h = .rt (rowD (actsV y.things k.acts st)) h := by
        simp only [b2__law_visited]
        walk_at "dy*"
      rw [e7]
      rfl
    | false =>
      rw [q] at e5
      have e7 : exec c b2__law_visited none [some y.toD, d1, some (rowD st), some (.tup (k.conds.map prD)), some (.tup (k.acts.map Act.toD)), v5, v6, v7] h = .nx [some y.toD, d1, some (rowD st), some (.tup (k.conds.map prD)), some (.tup (k.acts.map Act.toD)), v5, v6, v7] h := by
        simp only [b2__law_visited]
        walk_at "dy*"
      rw [e7]
      simp only [Bool.false_eq_true, if_false, sh1]
      exact e
theorem s_lvisited (H : HasLVisit T) (hc : At T 2 c) {y : Day} {most : Nat} (hy : y.ok most) (hm : most ≤ 100) {n : Str} {r : List Case} {st : List Nat} (hr : y.band.lookup n = some r) (ho : RuleFit st.length r) : c.call "_law_visited" [y.toD, .str n, rowD st] [] [] h = .ok (rowD (visitV y.things st r)) h := by
  obtain ⟨c', hc', e⟩ := hc.enter (vs := [y.toD, .str n, rowD st]) (ks := []) (ws := []) H.lvisited rfl h
  rw [e]; clear e
  have hl : y.band.length ≤ most := by have := hy.names.most; rw [List.length_map] at this; exact this
  have ht : 0 < y.things := by have := hy.t0; omega
  have t1 := pairsOf_band y.band
  have t2 := dictOf_band hy.names.nodup
  have t3 := homK_band n y.band
  have t4 := getK_band n y.band
  rw [hr] at t4
  have t5 : (y.band.map kvD).length ≤ sizeL := by rw [List.length_map]; show _ ≤ 16777216; omega
  obtain ⟨a1, a2, a3, a4, a5, e2⟩ := lvisit_loop H.lacted hc' (h := h) ht (st := st) (d1 := some (.str n)) r none none none none none ho
  simp only [ruleD, Option.map_some] at t4
  simp only [Day.toD] at e2 ⊢
  simp only [f__law_visited]
  cases q : matchI st 0 r with
  | some i =>
    rw [q] at e2
    simp only [Option.isSome_some, if_true] at e2
    walk_at "dy*"
    exact leave_rt0
  | none =>
    rw [q] at e2
    rw [visitV_no q]
    simp only [Option.isSome_none, Bool.false_eq_true, if_false] at e2
    walk_at "dy*"
    exact leave_rt0
end Dy
end

section
set_option linter.all false
set_option maxRecDepth 100000
set_option maxHeartbeats 1000000
set_option Elab.async false
namespace Dy
open PySem
local macro_rules | `(tactic| walk_at "dy") => `(tactic| simp -implicitDefEqProofs only [eS_nil, eS_cons, eS_asg, eS_asgS, eS_asgSS, kSS0, kSS1, kSS2, kSS3, kSS4, eS_aug, eS_ex, eS_for, eS_while, eS_if, eS_ret, eS_retN, eS_raise, eS_brk, eS_cnt, eS_pass, eS_try, eS_hnil, kTry_nx, kTry_rt, kTry_bk, kTry_ct, kTry_ex, eS_hyesN, eS_hyes0, eS_hno, calmF_nx, calmF_rt, calmF_bk, calmF_ct, unas_nx, unas_rt, unas_bk, unas_ct, set_end, get_end, eS_frzv, eT, nx_then, eE_nil, eE_cons, eE_var, eE_kn, eE_kb, eE_ki, eE_ks, eE_glo, eE_bin, eE_neg, eE_cmp, eE_cmp2, eE_not, eE_and, eE_or, eE_ife, eE_tup, eE_lst, eE_call, eE_blt, eE_met, eE_isi, eE_sub, eE_sli, eE_rev, eE_lc, eE_listr, eE_rng, eE_enum, eE_zip, kZip, zipD, eE_exf, eE_ise, exM_exc, exOf_ref, kIse_1, kIse_2, kExf_word, kExf_visitor, kExf_case, kExf_row, kExf_atV, kExf_atO, kExf_atP, kExf_names, kExf_many, kExf_wordM, kExf_most, kExf_atB, kExf_name, seqP_p, seqP_t, seqP_l, seqP_r, lsOf_t, lsOf_l, lsOf_d, EC.fs, EC.leaf, eE_frz,
  varM_some, kCons, kCons2, kBin, kNeg, kBl, kCmp, kCmp2, kC21, kC22, kC23, kNot, kNot2, kAnd, kAnd2, kOr, kOr2, kIfe, kIfe2, kLst, kCall, kCall2, kBlt, kMet, kMet2, kIsi, kSub, kSub2, kSli, kSli1, kSli2, kRev, kLc, kLc2, kRng_1, kRng_nat, kRng_2, kEnum, kFrz, ofS_some, kAsg, kNx, kAS1, kAS2, kAS3, kAug, augM, kTru, kFor, kFor2, kIf, kRaise, frzM, frzM2, asTup,
  R.bind_ok, R.bind_ex, R.go_ok, R.go_ex, Fl.then_ex, Fl.turn_ex, Fl.then_nx, Fl.then_rt, Fl.then_bk, Fl.then_ct, Fl.turn_nx, Fl.turn_rt, Fl.turn_bk, Fl.turn_ct, R.opt_some, calm_ok, List.map_cons, List.map_nil, List.length_cons, List.length_nil, List.replicate, List.cons_append, List.nil_append, List.append_nil, List.getElem?_cons_zero, List.getElem?_cons_succ, List.set_cons_zero, List.set_cons_succ,
  subD, cmpD, truthy_non, truthy_bl, truthy_int, truthy_str, truthy_tup, truthy_lst, setT, binD, putD, mkL, mkD, bltD, lenD_str, lenD_tup, lenD_lst, lenD_scr, lenD_ref, lenM_lst, clr, Tg.slots, seqOf_t, seqOf_l, seqOf_r, lstOf_l, lstOf_r, lstM_some, metD, Mt.rcv, Mt.kind, D.isStr, known, Ty.has, Ty.isB, srcOf_t, srcOf_l, srcOf_r, srcM_lst, forS_its, compS_its, eqD_int, eqD_str, eqD_bl, res, D.isNon, intOf, intsOf, boolsOf, strsOf, bdR, Ex.isKn, sliD, revD, addL, attrD, mulOk, pow64, enumL,
  List.all_cons, List.all_nil, List.any_cons, List.any_nil, Option.bind_some, Option.map_some, Option.isSome_some, Bool.and_true, Bool.true_and, Bool.or_false, Bool.false_or, Bool.or_true, Bool.true_or, Bool.and_self, Bool.and_false, Bool.false_and, Bool.not_true, Bool.not_false, Bool.not_not, Bool.false_eq_true, decide_eq_true_eq, decide_true, decide_false, if_true, if_false, ite_true, ite_false, ↓reduceIte, ne_eq, not_true_eq_false, not_false_eq_true, and_self, and_true, true_and,
  natC2, natC3, natC4, natC5, natC6, natC7, natC8, natC9, Int.natCast_zero, Int.natCast_one, cutL_to, cutL_from, cutL_ab, cutL_all, Int.zero_add, natAbs_10, Int.reducePow, atL_nat, Int.natCast_nonneg, natGe, Int.toNat_natCast, List.getElem_cons_zero, atL_nn, Int.le_refl, Int.toNat_zero, Int.reduceLT, Int.reduceLE, Int.reduceToNat, Int.reduceNeg, Int.reduceAdd, Int.reduceMul, Int.reduceSub, Int.reduceEq, Int.reduceBNe, Int.reduceBEq, Nat.reduceAdd, Nat.reduceSub, Nat.reduceLT, Nat.reduceEqDiff, Nat.zero_add, Nat.add_zero, List.getElem?_set_self, List.set_set, List.length_set, List.length_append, Int.reduceNeg, reduceCtorEq])
local macro_rules | `(tactic| walk_at "dy*") => `(tactic| simp -implicitDefEqProofs only [eS_nil, eS_cons, eS_asg, eS_asgS, eS_asgSS, kSS0, kSS1, kSS2, kSS3, kSS4, eS_aug, eS_ex, eS_for, eS_while, eS_if, eS_ret, eS_retN, eS_raise, eS_brk, eS_cnt, eS_pass, eS_try, eS_hnil, kTry_nx, kTry_rt, kTry_bk, kTry_ct, kTry_ex, eS_hyesN, eS_hyes0, eS_hno, calmF_nx, calmF_rt, calmF_bk, calmF_ct, unas_nx, unas_rt, unas_bk, unas_ct, set_end, get_end, eS_frzv, eT, nx_then, eE_nil, eE_cons, eE_var, eE_kn, eE_kb, eE_ki, eE_ks, eE_glo, eE_bin, eE_neg, eE_cmp, eE_cmp2, eE_not, eE_and, eE_or, eE_ife, eE_tup, eE_lst, eE_call, eE_blt, eE_met, eE_isi, eE_sub, eE_sli, eE_rev, eE_lc, eE_listr, eE_rng, eE_enum, eE_zip, kZip, zipD, eE_exf, eE_ise, exM_exc, exOf_ref, kIse_1, kIse_2, kExf_word, kExf_visitor, kExf_case, kExf_row, kExf_atV, kExf_atO, kExf_atP, kExf_names, kExf_many, kExf_wordM, kExf_most, kExf_atB, kExf_name, seqP_p, seqP_t, seqP_l, seqP_r, lsOf_t, lsOf_l, lsOf_d, EC.fs, EC.leaf, eE_frz,
  varM_some, kCons, kCons2, kBin, kNeg, kBl, kCmp, kCmp2, kC21, kC22, kC23, kNot, kNot2, kAnd, kAnd2, kOr, kOr2, kIfe, kIfe2, kLst, kCall, kCall2, kBlt, kMet, kMet2, kIsi, kSub, kSub2, kSli, kSli1, kSli2, kRev, kLc, kLc2, kRng_1, kRng_nat, kRng_2, kEnum, kFrz, ofS_some, kAsg, kNx, kAS1, kAS2, kAS3, kAug, augM, kTru, kFor, kFor2, kIf, kRaise, frzM, frzM2, asTup,
  R.bind_ok, R.bind_ex, R.go_ok, R.go_ex, Fl.then_ex, Fl.turn_ex, Fl.then_nx, Fl.then_rt, Fl.then_bk, Fl.then_ct, Fl.turn_nx, Fl.turn_rt, Fl.turn_bk, Fl.turn_ct, R.opt_some, calm_ok, List.map_cons, List.map_nil, List.length_cons, List.length_nil, List.replicate, List.cons_append, List.nil_append, List.append_nil, List.getElem?_cons_zero, List.getElem?_cons_succ, List.set_cons_zero, List.set_cons_succ,
  subD, cmpD, truthy_non, truthy_bl, truthy_int, truthy_str, truthy_tup, truthy_lst, setT, binD, putD, mkL, mkD, bltD, lenD_str, lenD_tup, lenD_lst, lenD_scr, lenD_ref, lenM_lst, clr, Tg.slots, seqOf_t, seqOf_l, seqOf_r, lstOf_l, lstOf_r, lstM_some, metD, Mt.rcv, Mt.kind, D.isStr, known, Ty.has, Ty.isB, srcOf_t, srcOf_l, srcOf_r, srcM_lst, forS_its, compS_its, eqD_int, eqD_str, eqD_bl, res, D.isNon, intOf, intsOf, boolsOf, strsOf, bdR, Ex.isKn, sliD, revD, addL, attrD, mulOk, pow64, enumL,
  List.all_cons, List.all_nil, List.any_cons, List.any_nil, Option.bind_some, Option.map_some, Option.isSome_some, Bool.and_true, Bool.true_and, Bool.or_false, Bool.false_or, Bool.or_true, Bool.true_or, Bool.and_self, Bool.and_false, Bool.false_and, Bool.not_true, Bool.not_false, Bool.not_not, Bool.false_eq_true, decide_eq_true_eq, decide_true, decide_false, if_true, if_false, ite_true, ite_false, ↓reduceIte, ne_eq, not_true_eq_false, not_false_eq_true, and_self, and_true, true_and,
  natC2, natC3, natC4, natC5, natC6, natC7, natC8, natC9, Int.natCast_zero, Int.natCast_one, cutL_to, cutL_from, cutL_ab, cutL_all, Int.zero_add, natAbs_10, Int.reducePow, atL_nat, Int.natCast_nonneg, natGe, Int.toNat_natCast, List.getElem_cons_zero, atL_nn, Int.le_refl, Int.toNat_zero, Int.reduceLT, Int.reduceLE, Int.reduceToNat, Int.reduceNeg, Int.reduceAdd, Int.reduceMul, Int.reduceSub, Int.reduceEq, Int.reduceBNe, Int.reduceBEq, Nat.reduceAdd, Nat.reduceSub, Nat.reduceLT, Nat.reduceEqDiff, Nat.zero_add, Nat.add_zero, List.getElem?_set_self, List.set_set, List.length_set, List.length_append, Int.reduceNeg, reduceCtorEq, *])
variable {T : Tx} {c : Cl} {h : Hh} {b : Nat}
/-! ### constraints -/
abbrev sD (s : Str) : D := .str s
def nsOf (y : Day) : List Str := y.band.map Prod.fst
def prS (p : Str × Str) : D := .tup [.str p.1, .str p.2]
theorem hasD_str (x : Str) : ∀ l : List Str, hasD (.str x) (l.map sD) = decide (x ∈ l)
  | [] => by simp [hasD]
  | y :: l => by
    have ih := hasD_str x l
    simp only [hasD] at ih ⊢
    rw [List.map_cons, List.any_cons, ih, eqv_str]
    by_cases e : y = x
    · subst e; simp
    · have e2 : ¬ x = y := fun z => e z.symm
      simp [e, e2]
theorem inT_str {x : Str} {l : List Str} : inD h (.str x) (.tup (l.map sD)) = some (decide (x ∈ l)) := by
  rw [inD_tup, if_pos (by rw [pyL_map (fun _ => rfl)]; rfl), hasD_str]
theorem inL_str {x : Str} {l : List Str} : inD h (.str x) (.lst (l.map sD)) = some (decide (x ∈ l)) := by
  rw [inD_lst, if_pos (by rw [pyL_map (fun _ => rfl)]; rfl), hasD_str]
theorem s_nmof (H : T.fn "names_of" = some f_names_of) (hc : At T 1 c) {y : Day} {most : Nat} (hy : y.ok most) (hm : most ≤ 100) : c.call "names_of" [y.toD] [] [] h = .ok (.tup ((nsOf y).map sD)) h := by
  rw [s_namesof H hc hy hm]
  unfold nsOf
  rw [List.map_map]; rfl
/-- a row: a list that stands still, or a tuple -/
def IsRow (d : D) (l : List D) : Prop := d = .lst l ∨ d = .tup l
theorem s_iscon (H : T.fn "is_constraint" = some f_is_constraint) (hc : At T 1 c) {ns : List Str} {p : Str × Str} (h1 : p.1 ∈ ns) (h2 : p.2 ∈ ns) (ne : p.1 ≠ p.2) : c.call "is_constraint" [.tup (ns.map sD), prS p] [] [] h = .ok (.bl true) h := by
  obtain ⟨c', hc', e⟩ := hc.enter (vs := [.tup (ns.map sD), prS p]) (ks := []) (ws := []) H rfl h
  rw [e]; clear e
  obtain ⟨a, b⟩ := p
  dsimp only at h1 h2 ne
  have e2 := lc_map (c := c') (t := .nm 2) (e := x1_is_constraint) (σ := [some (.tup (ns.map sD)), some (prS (a, b)), none]) (h := h) sD (fun _ => .bl true) [a, b] (by show 2 ≤ 16777216; omega) (fun x hx => by
    refine ⟨_, rfl, ?_⟩
    simp only [x1_is_constraint]
    walk_at "dy*")
  have e3 := inT_str (h := h) (x := a) (l := ns)
  have e4 := inT_str (h := h) (x := b) (l := ns)
  simp only [List.map_cons, List.map_nil, prS] at e2
  simp only [f_is_constraint, prS]
  walk_at "dy*"
  simp only [id_eq]
  walk_at "dy*"
  exact leave_rt0
theorem chk_loop (H : T.fn "is_constraint" = some f_is_constraint) (hc : At T 1 c) {ns : List Str} {d0 d1 d5 : Option D} : ∀ (ps : List (Str × Str)) (n : Nat) (v3 v4 : Option D), (∀ p ∈ ps, p.1 ∈ ns ∧ p.2 ∈ ns ∧ p.1 ≠ p.2) → ∃ w3 w4,
    forL (.tp (.cons (.nm 3) (.cons (.nm 4) .nil))) (exec c b1_check_pairs none) (enumL n (ps.map prS)) [d0, d1, some (.tup (ns.map sD)), v3, v4, d5] h = .nx [d0, d1, some (.tup (ns.map sD)), w3, w4, d5] h
  | [], n, v3, v4, _ => ⟨v3, v4, rfl⟩
  | p :: ps, n, v3, v4, ho => by
    obtain ⟨w3, w4, e⟩ := chk_loop H hc (ns := ns) (d0 := d0) (d1 := d1) (d5 := d5) ps (n + 1) (some (.int n)) (some (prS p)) (fun x hx => ho x (List.mem_cons_of_mem _ hx))
    refine ⟨w3, w4, ?_⟩
    obtain ⟨o1, o2, o3⟩ := ho p List.mem_cons_self
    have e1 := s_iscon H hc (h := h) o1 o2 o3
    have e2 : exec c b1_check_pairs none [d0, d1, some (.tup (ns.map sD)), some (.int n), some (prS p), d5] h = .nx [d0, d1, some (.tup (ns.map sD)), some (.int n), some (prS p), d5] h := by
      simp only [b1_check_pairs]
      walk_at "dy*"
    show (exec c b1_check_pairs none [d0, d1, some (.tup (ns.map sD)), some (.int n), some (prS p), d5] h).turn _ = _
    rw [e2]
    exact e
/-- the constraints have no cycle: they go up -/
def Up (r : Str → Nat) (ps : List (Str × Str)) : Prop := ∀ p ∈ ps, r p.1 < r p.2
theorem least_free {r : Str → Nat} {ps : List (Str × Str)} (hu : Up r ps) : ∀ {left : List Str}, left ≠ [] → ∃ x ∈ left, ∀ p ∈ ps, p.1 ∈ left → p.2 ≠ x := by
  intro left hl
  have key : ∀ (n : Nat) (left : List Str), left.length ≤ n → left ≠ [] → ∃ x ∈ left, ∀ z ∈ left, r x ≤ r z := by
    intro n
    induction n with
    | zero => intro left h1 h2; exact absurd (List.eq_nil_of_length_eq_zero (by omega)) h2
    | succ n ih =>
      intro left h1 h2
      cases left with
      | nil => exact absurd rfl h2
      | cons a l =>
        by_cases hl : l = []
        · subst hl; exact ⟨a, List.mem_cons_self, fun z hz => by rw [List.mem_singleton.mp hz]; exact Nat.le_refl _⟩
        · obtain ⟨x, hx, hm⟩ := ih l (by simp at h1; omega) hl
          by_cases q : r a ≤ r x
          · exact ⟨a, List.mem_cons_self, fun z hz => by
              rcases List.mem_cons.mp hz with rfl | hz
              · exact Nat.le_refl _
              · exact Nat.le_trans q (hm z hz)⟩
          · exact ⟨x, List.mem_cons_of_mem _ hx, fun z hz => by
              rcases List.mem_cons.mp hz with rfl | hz
              · omega
              · exact hm z hz⟩
  obtain ⟨x, hx, hm⟩ := key left.length left (Nat.le_refl _) hl
  exact ⟨x, hx, fun p hp hpl e => by have h1 := hu p hp; have h2 := hm p.1 hpl; rw [e] at h1; omega⟩
def boundV (ps : List (Str × Str)) (left : List Str) : List Str := (ps.filter fun p => decide (p.1 ∈ left)).map Prod.snd
theorem fc_turn (hc : At T 1 c) {ps : List (Str × Str)} {pd : D} (hp : IsRow pd (ps.map prS)) (hpl : ps.length ≤ 1000) {left : List Str} (hl : left.length ≤ 1000) (hfr : (left.filter fun x => !decide (x ∈ boundV ps left)) ≠ []) {d0 v3 v4 v5 v6 v7 : Option D} :
    ∃ w3 w4 w5 w6 w7, exec c b1_find_cycle none [d0, some pd, some (.lst (left.map sD)), v3, v4, v5, v6, v7] h = .nx [d0, some pd, some (.lst ((left.filter fun x => decide (x ∈ boundV ps left)).map sD)), w3, w4, w5, w6, w7] h := by
  have e1 : compL (lcF c (.tp (.cons (.nm 3) (.cons (.nm 4) .nil))) x2_find_cycle x3_find_cycle [d0, some pd, some (.lst (left.map sD)), v3, v4, v5, v6, v7]) (ps.map prS) [] h = .ok ((boundV ps left).map sD) h := by
    unfold boundV
    rw [List.map_map]
    refine lc_filter prS (fun p => sD p.2) (fun p => decide (p.1 ∈ left)) ps (by show _ ≤ 16777216; omega) (fun p hpm => ?_)
    refine ⟨_, rfl, ?_, fun _ => ?_⟩
    · have := inL_str (h := h) (x := p.1) (l := left)
      simp only [x3_find_cycle]
      walk_at "dy*"
    · simp only [x2_find_cycle]
      walk_at "dy*"
  have e2 := lc_filter (c := c) (t := .nm 6) (e := x4_find_cycle) (cd := x5_find_cycle) (σ := [d0, some pd, some (.lst (left.map sD)), v3, v4, some (.lst ((boundV ps left).map sD)), v6, v7]) (h := h) sD sD (fun x => !decide (x ∈ boundV ps left)) left (by show _ ≤ 16777216; omega) (fun x hx => by
    refine ⟨_, rfl, ?_, fun _ => ?_⟩
    · have := inL_str (h := h) (x := x) (l := boundV ps left)
      simp only [x5_find_cycle]
      walk_at "dy*"
    · simp only [x4_find_cycle]
      walk_at "dy*")
  have e3 : ((left.filter fun x => !decide (x ∈ boundV ps left)).map sD).isEmpty = false := by
    rw [List.isEmpty_map, List.isEmpty_eq_false_iff]; exact hfr
  generalize ((left.filter fun x => !decide (x ∈ boundV ps left)).map sD) = fr at e2 e3
  have e4 := lc_filter (c := c) (t := .nm 6) (e := x6_find_cycle) (cd := x7_find_cycle) (σ := [d0, some pd, some (.lst (left.map sD)), v3, v4, some (.lst ((boundV ps left).map sD)), v6, some (.lst fr)]) (h := h) sD sD (fun x => decide (x ∈ boundV ps left)) left (by show _ ≤ 16777216; omega) (fun x hx => by
    refine ⟨_, rfl, ?_, fun _ => ?_⟩
    · have := inL_str (h := h) (x := x) (l := boundV ps left)
      simp only [x7_find_cycle]
      walk_at "dy*"
    · simp only [x6_find_cycle]
      walk_at "dy*")
  refine ⟨v3, v4, some (.lst ((boundV ps left).map sD)), v6, some (.lst fr), ?_⟩
  rcases hp with rfl | rfl
  · simp only [b1_find_cycle]
    walk_at "dy*"
  · simp only [b1_find_cycle]
    walk_at "dy*"
theorem fc_loop (hc : At T 1 c) {ps : List (Str × Str)} {r : Str → Nat} (hu : Up r ps) {pd : D} (hp : IsRow pd (ps.map prS)) (hpl : ps.length ≤ 1000) {d0 : Option D} : ∀ (n : Nat) (left : List Str) (k : Nat), left.length ≤ n → n ≤ 1000 → n < k → ∀ (v3 v4 v5 v6 v7 : Option D), ∃ w3 w4 w5 w6 w7,
    whileN (evalT c x1_find_cycle) (exec c b1_find_cycle none) k [d0, some pd, some (.lst (left.map sD)), v3, v4, v5, v6, v7] h = .nx [d0, some pd, some (.lst []), w3, w4, w5, w6, w7] h
  | n, [], k, hn, hn2, hk, v3, v4, v5, v6, v7 => by
    obtain ⟨k, rfl⟩ : ∃ j, k = j + 1 := ⟨k - 1, by omega⟩
    refine ⟨v3, v4, v5, v6, v7, ?_⟩
    have e1 : evalT c x1_find_cycle [d0, some pd, some (.lst []), v3, v4, v5, v6, v7] h = .ok false h := by
      simp only [x1_find_cycle]
      walk_at "dy*"
      rfl
    show ((evalT c x1_find_cycle [d0, some pd, some (.lst []), v3, v4, v5, v6, v7] h).go _ _) = _
    rw [e1]
    rfl
  | 0, a :: left, k, hn, _, _, _, _, _, _, _ => by simp at hn
  | n + 1, a :: left, k, hn, hn2, hk, v3, v4, v5, v6, v7 => by
    obtain ⟨k, rfl⟩ : ∃ j, k = j + 1 := ⟨k - 1, by omega⟩
    obtain ⟨x, hx, hf⟩ := least_free hu (left := a :: left) (by simp)
    have nx : x ∉ boundV ps (a :: left) := fun z => by
      obtain ⟨p, hp1, hp2⟩ := List.mem_map.mp z
      rw [List.mem_filter] at hp1
      exact hf p hp1.1 (by simpa using hp1.2) hp2
    have hfr : ((a :: left).filter fun z => !decide (z ∈ boundV ps (a :: left))) ≠ [] := fun z => by
      rw [List.filter_eq_nil_iff] at z
      exact z x hx (by simpa using nx)
    have hlt : ((a :: left).filter fun z => decide (z ∈ boundV ps (a :: left))).length < (a :: left).length := by
      refine Nat.lt_of_le_of_ne (List.length_filter_le _ _) fun z => ?_
      rw [List.length_filter_eq_length_iff] at z
      exact nx (by simpa using z x hx)
    obtain ⟨u3, u4, u5, u6, u7, e2⟩ := fc_turn hc hp hpl (left := a :: left) (by omega) hfr (h := h) (d0 := d0) (v3 := v3) (v4 := v4) (v5 := v5) (v6 := v6) (v7 := v7)
    obtain ⟨w3, w4, w5, w6, w7, e3⟩ := fc_loop hc hu hp hpl (d0 := d0) n ((a :: left).filter fun z => decide (z ∈ boundV ps (a :: left))) k (by omega) (by omega) (by omega) u3 u4 u5 u6 u7
    refine ⟨w3, w4, w5, w6, w7, ?_⟩
    have e1 : evalT c x1_find_cycle [d0, some pd, some (.lst ((a :: left).map sD)), v3, v4, v5, v6, v7] h = .ok true h := by
      simp only [x1_find_cycle]
      walk_at "dy*"
      rfl
    show ((evalT c x1_find_cycle [d0, some pd, some (.lst ((a :: left).map sD)), v3, v4, v5, v6, v7] h).go _ _) = _
    rw [e1]
    show (exec c b1_find_cycle none [d0, some pd, some (.lst ((a :: left).map sD)), v3, v4, v5, v6, v7] h).turn _ = _
    rw [e2]
    exact e3
structure HasPairs (T : Tx) : Prop where
  namesof : T.fn "names_of" = some f_names_of
  iscon : T.fn "is_constraint" = some f_is_constraint
  fcycle : T.fn "find_cycle" = some f_find_cycle
  chkpairs : T.fn "check_pairs" = some f_check_pairs
/-- good constraints of a day -/
structure PairsOk (y : Day) (ps : List (Str × Str)) : Prop where
  mem : ∀ p ∈ ps, p.1 ∈ nsOf y ∧ p.2 ∈ nsOf y
  up : ∃ r, Up r ps
  few : ps.length ≤ 1000
theorem PairsOk.ne {y : Day} {ps : List (Str × Str)} (o : PairsOk y ps) : ∀ p ∈ ps, p.1 ∈ nsOf y ∧ p.2 ∈ nsOf y ∧ p.1 ≠ p.2 := fun p hp => by
  obtain ⟨r, hu⟩ := o.up
  exact ⟨(o.mem p hp).1, (o.mem p hp).2, fun e => by have := hu p hp; rw [e] at this; omega⟩
theorem nsOf_len {y : Day} {most : Nat} (hy : y.ok most) : (nsOf y).length ≤ most := hy.names.most
theorem s_fcycle (H : HasPairs T) (hc : At T 2 c) {y : Day} {most : Nat} (hy : y.ok most) (hm : most ≤ 100) {ps : List (Str × Str)} (o : PairsOk y ps) {pd : D} (hp : IsRow pd (ps.map prS)) : c.call "find_cycle" [y.toD, pd] [] [] h = .ok .non h := by
  obtain ⟨c', hc', e⟩ := hc.enter (vs := [y.toD, pd]) (ks := []) (ws := []) H.fcycle rfl h
  rw [e]; clear e
  have e1 := s_nmof H.namesof hc' (h := h) hy hm
  have hl := nsOf_len hy
  obtain ⟨r, hu⟩ := o.up
  obtain ⟨w3, w4, w5, w6, w7, e2⟩ := fc_loop hc' hu hp o.few (h := h) (d0 := some y.toD) 1000 (nsOf y) turns (by omega) (by omega) (by decide) none none none none none
  simp only [f_find_cycle]
  walk_at "dy*"
  exact leave_rt0
theorem s_chkpairs (H : HasPairs T) (hc : At T 3 c) {y : Day} {most : Nat} (hy : y.ok most) (hm : most ≤ 100) {ps : List (Str × Str)} (o : PairsOk y ps) {pd : D} (hp : IsRow pd (ps.map prS)) : c.call "check_pairs" [y.toD, pd] [] [] h = .ok .non h := by
  obtain ⟨c', hc', e⟩ := hc.enter (vs := [y.toD, pd]) (ks := []) (ws := []) H.chkpairs rfl h
  rw [e]; clear e
  have e1 := s_nmof H.namesof (hc'.mono (by omega)) (h := h) hy hm
  have e2 := s_fcycle H hc' (h := h) hy hm o hp
  obtain ⟨w3, w4, e3⟩ := chk_loop H.iscon (hc'.mono (by omega)) (h := h) (ns := nsOf y) (d0 := some y.toD) (d1 := some pd) (d5 := none) ps 0 none none o.ne
  rcases hp with rfl | rfl
  · simp only [f_check_pairs]
    walk_at "dy*"
    exact leave_nx0
  · simp only [f_check_pairs]
    walk_at "dy*"
    exact leave_nx0
/-! ### who may come -/
def comeV (ns : List Str) (ps : List (Str × Str)) (cm : List Str) : List Str := ns.filter fun n => !decide (n ∈ cm) && !decide (n ∈ (ps.filter fun p => !decide (p.1 ∈ cm)).map Prod.snd)
theorem inR_str {x : Str} {l : List Str} {d : D} (hd : IsRow d (l.map sD)) : inD h (.str x) d = some (decide (x ∈ l)) := by
  rcases hd with rfl | rfl
  · exact inL_str
  · exact inT_str
theorem s_coming (H : T.fn "names_of" = some f_names_of) (H2 : T.fn "coming" = some f_coming) (hc : At T 2 c) {y : Day} {most : Nat} (hy : y.ok most) (hm : most ≤ 100) {ps : List (Str × Str)} (hpl : ps.length ≤ 1000) {pd : D} (hp : IsRow pd (ps.map prS)) {cm : List Str} {cd : D} (hcm : IsRow cd (cm.map sD)) :
    c.call "coming" [y.toD, pd, cd] [] [] h = .ok (.tup ((comeV (nsOf y) ps cm).map sD)) h := by
  obtain ⟨c', hc', e⟩ := hc.enter (vs := [y.toD, pd, cd]) (ks := []) (ws := []) H2 rfl h
  rw [e]; clear e
  have e1 := s_nmof H hc' (h := h) hy hm
  have hl := nsOf_len hy
  have e2 : compL (lcF c' (.tp (.cons (.nm 3) (.cons (.nm 4) .nil))) x1_coming x2_coming [some y.toD, some pd, some cd, none, none, none, none]) (ps.map prS) [] h = .ok (((ps.filter fun p => !decide (p.1 ∈ cm)).map Prod.snd).map sD) h := by
    rw [List.map_map]
    refine lc_filter prS (fun p => sD p.2) (fun p => !decide (p.1 ∈ cm)) ps (by show _ ≤ 16777216; omega) (fun p hpm => ?_)
    refine ⟨_, rfl, ?_, fun _ => ?_⟩
    · have := inR_str (h := h) (x := p.1) hcm
      simp only [x2_coming]
      walk_at "dy*"
    · simp only [x1_coming]
      walk_at "dy*"
  have e3 := lc_filter (c := c') (t := .nm 6) (e := x3_coming) (cd := x4_coming) (σ := [some y.toD, some pd, some cd, none, none, some (.lst (((ps.filter fun p => !decide (p.1 ∈ cm)).map Prod.snd).map sD)), none]) (h := h) sD sD (fun n => !decide (n ∈ cm) && !decide (n ∈ (ps.filter fun p => !decide (p.1 ∈ cm)).map Prod.snd)) (nsOf y) (by show _ ≤ 16777216; omega) (fun x hx => by
    refine ⟨_, rfl, ?_, fun _ => ?_⟩
    · have z1 := inR_str (h := h) (x := x) hcm
      have z2 := inL_str (h := h) (x := x) (l := (ps.filter fun p => !decide (p.1 ∈ cm)).map Prod.snd)
      generalize (ps.filter fun p => !decide (p.1 ∈ cm)).map Prod.snd = bl at z2 ⊢
      simp only [x4_coming]
      by_cases q : x ∈ cm
      · rw [decide_eq_true q] at z1 ⊢
        walk_at "dy*"
      · rw [decide_eq_false q] at z1 ⊢
        walk_at "dy*"
    · simp only [x3_coming]
      walk_at "dy*")
  have e4 : (List.filter (fun n => !decide (n ∈ cm) && !decide (n ∈ (ps.filter fun p => !decide (p.1 ∈ cm)).map Prod.snd)) (nsOf y)) = comeV (nsOf y) ps cm := rfl
  rw [e4] at e3
  generalize ((ps.filter fun p => !decide (p.1 ∈ cm)).map Prod.snd).map sD = bl at e2 e3
  rcases hp with rfl | rfl
  · simp only [f_coming]
    walk_at "dy*"
    exact leave_rt0
  · simp only [f_coming]
    walk_at "dy*"
    exact leave_rt0
end Dy
end

section
set_option linter.all false
set_option maxRecDepth 100000
set_option maxHeartbeats 1000000
set_option Elab.async false
namespace Dy
open PySem
local macro_rules | `(tactic| walk_at "dy") => `(tactic| simp -implicitDefEqProofs only [eS_nil, eS_cons, eS_asg, eS_asgS, eS_asgSS, kSS0, kSS1, kSS2, kSS3, kSS4, eS_aug, eS_ex, eS_for, eS_while, eS_if, eS_ret, eS_retN, eS_raise, eS_brk, eS_cnt, eS_pass, eS_try, eS_hnil, kTry_nx, kTry_rt, kTry_bk, kTry_ct, kTry_ex, eS_hyesN, eS_hyes0, eS_hno, calmF_nx, calmF_rt, calmF_bk, calmF_ct, unas_nx, unas_rt, unas_bk, unas_ct, set_end, get_end, eS_frzv, eT, nx_then, eE_nil, eE_cons, eE_var, eE_kn, eE_kb, eE_ki, eE_ks, eE_glo, eE_bin, eE_neg, eE_cmp, eE_cmp2, eE_not, eE_and, eE_or, eE_ife, eE_tup, eE_lst, eE_call, eE_blt, eE_met, eE_isi, eE_sub, eE_sli, eE_rev, eE_lc, eE_listr, eE_rng, eE_enum, eE_zip, kZip, zipD, eE_exf, eE_ise, exM_exc, exOf_ref, kIse_1, kIse_2, kExf_word, kExf_visitor, kExf_case, kExf_row, kExf_atV, kExf_atO, kExf_atP, kExf_names, kExf_many, kExf_wordM, kExf_most, kExf_atB, kExf_name, seqP_p, seqP_t, seqP_l, seqP_r, lsOf_t, lsOf_l, lsOf_d, EC.fs, EC.leaf, eE_frz,
  varM_some, kCons, kCons2, kBin, kNeg, kBl, kCmp, kCmp2, kC21, kC22, kC23, kNot, kNot2, kAnd, kAnd2, kOr, kOr2, kIfe, kIfe2, kLst, kCall, kCall2, kBlt, kMet, kMet2, kIsi, kSub, kSub2, kSli, kSli1, kSli2, kRev, kLc, kLc2, kRng_1, kRng_nat, kRng_2, kEnum, kFrz, ofS_some, kAsg, kNx, kAS1, kAS2, kAS3, kAug, augM, kTru, kFor, kFor2, kIf, kRaise, frzM, frzM2, asTup,
  R.bind_ok, R.bind_ex, R.go_ok, R.go_ex, Fl.then_ex, Fl.turn_ex, Fl.then_nx, Fl.then_rt, Fl.then_bk, Fl.then_ct, Fl.turn_nx, Fl.turn_rt, Fl.turn_bk, Fl.turn_ct, R.opt_some, calm_ok, List.map_cons, List.map_nil, List.length_cons, List.length_nil, List.replicate, List.cons_append, List.nil_append, List.append_nil, List.getElem?_cons_zero, List.getElem?_cons_succ, List.set_cons_zero, List.set_cons_succ,
  subD, cmpD, truthy_non, truthy_bl, truthy_int, truthy_str, truthy_tup, truthy_lst, setT, binD, putD, mkL, mkD, bltD, lenD_str, lenD_tup, lenD_lst, lenD_scr, lenD_ref, lenM_lst, clr, Tg.slots, seqOf_t, seqOf_l, seqOf_r, lstOf_l, lstOf_r, lstM_some, metD, Mt.rcv, Mt.kind, D.isStr, known, Ty.has, Ty.isB, srcOf_t, srcOf_l, srcOf_r, srcM_lst, forS_its, compS_its, eqD_int, eqD_str, eqD_bl, res, D.isNon, intOf, intsOf, boolsOf, strsOf, bdR, Ex.isKn, sliD, revD, addL, attrD, mulOk, pow64, enumL,
  List.all_cons, List.all_nil, List.any_cons, List.any_nil, Option.bind_some, Option.map_some, Option.isSome_some, Bool.and_true, Bool.true_and, Bool.or_false, Bool.false_or, Bool.or_true, Bool.true_or, Bool.and_self, Bool.and_false, Bool.false_and, Bool.not_true, Bool.not_false, Bool.not_not, Bool.false_eq_true, decide_eq_true_eq, decide_true, decide_false, if_true, if_false, ite_true, ite_false, ↓reduceIte, ne_eq, not_true_eq_false, not_false_eq_true, and_self, and_true, true_and,
  natC2, natC3, natC4, natC5, natC6, natC7, natC8, natC9, Int.natCast_zero, Int.natCast_one, cutL_to, cutL_from, cutL_ab, cutL_all, Int.zero_add, natAbs_10, Int.reducePow, atL_nat, Int.natCast_nonneg, natGe, Int.toNat_natCast, List.getElem_cons_zero, atL_nn, Int.le_refl, Int.toNat_zero, Int.reduceLT, Int.reduceLE, Int.reduceToNat, Int.reduceNeg, Int.reduceAdd, Int.reduceMul, Int.reduceSub, Int.reduceEq, Int.reduceBNe, Int.reduceBEq, Nat.reduceAdd, Nat.reduceSub, Nat.reduceLT, Nat.reduceEqDiff, Nat.zero_add, Nat.add_zero, List.getElem?_set_self, List.set_set, List.length_set, List.length_append, Int.reduceNeg, reduceCtorEq])
local macro_rules | `(tactic| walk_at "dy*") => `(tactic| simp -implicitDefEqProofs only [eS_nil, eS_cons, eS_asg, eS_asgS, eS_asgSS, kSS0, kSS1, kSS2, kSS3, kSS4, eS_aug, eS_ex, eS_for, eS_while, eS_if, eS_ret, eS_retN, eS_raise, eS_brk, eS_cnt, eS_pass, eS_try, eS_hnil, kTry_nx, kTry_rt, kTry_bk, kTry_ct, kTry_ex, eS_hyesN, eS_hyes0, eS_hno, calmF_nx, calmF_rt, calmF_bk, calmF_ct, unas_nx, unas_rt, unas_bk, unas_ct, set_end, get_end, eS_frzv, eT, nx_then, eE_nil, eE_cons, eE_var, eE_kn, eE_kb, eE_ki, eE_ks, eE_glo, eE_bin, eE_neg, eE_cmp, eE_cmp2, eE_not, eE_and, eE_or, eE_ife, eE_tup, eE_lst, eE_call, eE_blt, eE_met, eE_isi, eE_sub, eE_sli, eE_rev, eE_lc, eE_listr, eE_rng, eE_enum, eE_zip, kZip, zipD, eE_exf, eE_ise, exM_exc, exOf_ref, kIse_1, kIse_2, kExf_word, kExf_visitor, kExf_case, kExf_row, kExf_atV, kExf_atO, kExf_atP, kExf_names, kExf_many, kExf_wordM, kExf_most, kExf_atB, kExf_name, seqP_p, seqP_t, seqP_l, seqP_r, lsOf_t, lsOf_l, lsOf_d, EC.fs, EC.leaf, eE_frz,
  varM_some, kCons, kCons2, kBin, kNeg, kBl, kCmp, kCmp2, kC21, kC22, kC23, kNot, kNot2, kAnd, kAnd2, kOr, kOr2, kIfe, kIfe2, kLst, kCall, kCall2, kBlt, kMet, kMet2, kIsi, kSub, kSub2, kSli, kSli1, kSli2, kRev, kLc, kLc2, kRng_1, kRng_nat, kRng_2, kEnum, kFrz, ofS_some, kAsg, kNx, kAS1, kAS2, kAS3, kAug, augM, kTru, kFor, kFor2, kIf, kRaise, frzM, frzM2, asTup,
  R.bind_ok, R.bind_ex, R.go_ok, R.go_ex, Fl.then_ex, Fl.turn_ex, Fl.then_nx, Fl.then_rt, Fl.then_bk, Fl.then_ct, Fl.turn_nx, Fl.turn_rt, Fl.turn_bk, Fl.turn_ct, R.opt_some, calm_ok, List.map_cons, List.map_nil, List.length_cons, List.length_nil, List.replicate, List.cons_append, List.nil_append, List.append_nil, List.getElem?_cons_zero, List.getElem?_cons_succ, List.set_cons_zero, List.set_cons_succ,
  subD, cmpD, truthy_non, truthy_bl, truthy_int, truthy_str, truthy_tup, truthy_lst, setT, binD, putD, mkL, mkD, bltD, lenD_str, lenD_tup, lenD_lst, lenD_scr, lenD_ref, lenM_lst, clr, Tg.slots, seqOf_t, seqOf_l, seqOf_r, lstOf_l, lstOf_r, lstM_some, metD, Mt.rcv, Mt.kind, D.isStr, known, Ty.has, Ty.isB, srcOf_t, srcOf_l, srcOf_r, srcM_lst, forS_its, compS_its, eqD_int, eqD_str, eqD_bl, res, D.isNon, intOf, intsOf, boolsOf, strsOf, bdR, Ex.isKn, sliD, revD, addL, attrD, mulOk, pow64, enumL,
  List.all_cons, List.all_nil, List.any_cons, List.any_nil, Option.bind_some, Option.map_some, Option.isSome_some, Bool.and_true, Bool.true_and, Bool.or_false, Bool.false_or, Bool.or_true, Bool.true_or, Bool.and_self, Bool.and_false, Bool.false_and, Bool.not_true, Bool.not_false, Bool.not_not, Bool.false_eq_true, decide_eq_true_eq, decide_true, decide_false, if_true, if_false, ite_true, ite_false, ↓reduceIte, ne_eq, not_true_eq_false, not_false_eq_true, and_self, and_true, true_and,
  natC2, natC3, natC4, natC5, natC6, natC7, natC8, natC9, Int.natCast_zero, Int.natCast_one, cutL_to, cutL_from, cutL_ab, cutL_all, Int.zero_add, natAbs_10, Int.reducePow, atL_nat, Int.natCast_nonneg, natGe, Int.toNat_natCast, List.getElem_cons_zero, atL_nn, Int.le_refl, Int.toNat_zero, Int.reduceLT, Int.reduceLE, Int.reduceToNat, Int.reduceNeg, Int.reduceAdd, Int.reduceMul, Int.reduceSub, Int.reduceEq, Int.reduceBNe, Int.reduceBEq, Nat.reduceAdd, Nat.reduceSub, Nat.reduceLT, Nat.reduceEqDiff, Nat.zero_add, Nat.add_zero, List.getElem?_set_self, List.set_set, List.length_set, List.length_append, Int.reduceNeg, reduceCtorEq, *])
variable {T : Tx} {c : Cl} {h : Hh} {b : Nat}
/-! ### who may come next, asked -/
structure HasNext (T : Tx) : Prop extends HasPairs T where
  coming : T.fn "coming" = some f_coming
  next : T.fn "next_visitors" = some f_next_visitors
theorem next_loop (H : T.fn "names_of" = some f_names_of) (hc : At T 1 c) {y : Day} {most : Nat} (hy : y.ok most) (hm : most ≤ 100) {d1 d2 : Option D} : ∀ (l : List Str) (v3 : Option D), ∃ w3, forL (.nm 3) (exec c b1_next_visitors none) (l.map sD) [some y.toD, d1, d2, v3] h = (match l.find? fun x => !decide (x ∈ nsOf y) with
      | some x => .ex .noName [.str x] [some y.toD, d1, d2, some (.str x)] h
      | none => .nx [some y.toD, d1, d2, w3] h)
  | [], v3 => ⟨v3, rfl⟩
  | x :: l, v3 => by
    obtain ⟨w3, e⟩ := next_loop H hc hy hm (d1 := d1) (d2 := d2) l (some (.str x))
    refine ⟨w3, ?_⟩
    have e1 := s_nmof H hc (h := h) hy hm
    have e2 := inT_str (h := h) (x := x) (l := nsOf y)
    have e0 : forL (.nm 3) (exec c b1_next_visitors none) ((x :: l).map sD) [some y.toD, d1, d2, v3] h = (exec c b1_next_visitors none [some y.toD, d1, d2, some (.str x)] h).turn fun σ h => forL (.nm 3) (exec c b1_next_visitors none) (l.map sD) σ h := rfl
    rw [e0]; clear e0
    by_cases q : x ∈ nsOf y
    · rw [decide_eq_true q] at e2
      have e3 : exec c b1_next_visitors none [some y.toD, d1, d2, some (.str x)] h = .nx [some y.toD, d1, d2, some (.str x)] h := by
        simp only [b1_next_visitors]
        walk_at "dy*"
      rw [e3]
      have f : (x :: l).find? (fun x => !decide (x ∈ nsOf y)) = l.find? fun x => !decide (x ∈ nsOf y) := by simp [List.find?_cons, q]
      rw [f]
      exact e
    · rw [decide_eq_false q] at e2
      have e3 : exec c b1_next_visitors none [some y.toD, d1, d2, some (.str x)] h = .ex .noName [.str x] [some y.toD, d1, d2, some (.str x)] h := by
        simp only [b1_next_visitors]
        walk_at "dy*"
      rw [e3]
      have f : (x :: l).find? (fun x => !decide (x ∈ nsOf y)) = some x := by simp [List.find?_cons, q]
      rw [f]
      rfl
theorem s_next (H : HasNext T) (hc : At T 4 c) {y : Day} {most : Nat} (hy : y.ok most) (hm : most ≤ 100) {ps : List (Str × Str)} (o : PairsOk y ps) {pd : D} (hp : IsRow pd (ps.map prS)) {cm : List Str} {cd : D} (hcm : IsRow cd (cm.map sD)) :
    c.call "next_visitors" [y.toD, pd, cd] [] [] h = (match cm.find? fun x => !decide (x ∈ nsOf y) with
      | some x => .ex .noName [.str x] h
      | none => .ok (.tup ((comeV (nsOf y) ps cm).map sD)) h) := by
  obtain ⟨c', hc', e⟩ := hc.enter (vs := [y.toD, pd, cd]) (ks := []) (ws := []) H.next rfl h
  rw [e]; clear e
  have e1 := s_chkpairs H.toHasPairs hc' (h := h) hy hm o hp
  have e2 := s_coming H.namesof H.coming (hc'.mono (by omega)) (h := h) hy hm o.few hp hcm
  obtain ⟨w3, e3⟩ := next_loop H.namesof (hc'.mono (by omega)) (h := h) hy hm (d1 := some pd) (d2 := some cd) cm none
  generalize comeV (nsOf y) ps cm = cv at e2 ⊢
  cases q : cm.find? fun x => !decide (x ∈ nsOf y) with
  | some x =>
    rw [q] at e3
    rcases hcm with rfl | rfl
    · simp only [f_next_visitors]
      walk_at "dy*"
      exact leave_ex0
    · simp only [f_next_visitors]
      walk_at "dy*"
      exact leave_ex0
  | none =>
    rw [q] at e3
    rcases hcm with rfl | rfl
    · simp only [f_next_visitors]
      walk_at "dy*"
      exact leave_rt0
    · simp only [f_next_visitors]
      walk_at "dy*"
      exact leave_rt0
/-! ### constraints drawn along an order -/
def Along (ord : List Str) (ps : List (Str × Str)) : Prop := ∀ p ∈ ps, ∃ i j : Nat, i < j ∧ ord[i]? = some p.1 ∧ ord[j]? = some p.2
theorem Along.ok {y : Day} {ord : List Str} {ps : List (Str × Str)} (pm : ord.Perm (nsOf y)) (nd : (nsOf y).Nodup) (a : Along ord ps) (hl : ps.length ≤ 1000) : PairsOk y ps := by
  have nd2 : ord.Nodup := pm.nodup_iff.mpr nd
  refine ⟨fun p hp => ?_, ⟨fun x => ord.idxOf x, fun p hp => ?_⟩, hl⟩
  · obtain ⟨i, j, _, h1, h2⟩ := a p hp
    exact ⟨pm.subset (List.mem_of_getElem? h1), pm.subset (List.mem_of_getElem? h2)⟩
  · obtain ⟨i, j, ij, h1, h2⟩ := a p hp
    obtain ⟨hi, e1⟩ := List.getElem?_eq_some_iff.mp h1
    obtain ⟨hj, e2⟩ := List.getElem?_eq_some_iff.mp h2
    rw [← e1, ← e2]
    show ord.idxOf ord[i] < ord.idxOf ord[j]
    rw [nd2.idxOf_getElem, nd2.idxOf_getElem]
    exact ij
structure HasLPairs (T : Tx) : Prop extends HasTake T where
  lpairs : T.fn "_law_pairs" = some f__law_pairs
/-- one constraint more -/
theorem pair_turn (H : HasTake T) (hc : At T 1 c) {ord : List Str} {n : Nat} (hb : isBox h b) (hn : n ≠ b) (hl : 1 < ord.length) (hl2 : ord.length ≤ 100) {ps : List (Str × Str)} (hA : h[n]? = some (.lst (ps.map prS))) (ha : Along ord ps) (hal : ps.length ≤ 1000) {d1 d2 v3 v4 v7 v8 : Option D} :
    Nx (exec c b1__law_pairs none [some (.ref b), d1, d2, v3, v4, some (.lst (ord.map sD)), some (.ref n), v7, v8] h) fun σ h' => ∃ w8 ps', σ = [some (.ref b), d1, d2, v3, v4, some (.lst (ord.map sD)), some (.ref n), v7, w8] ∧
      h'[n]? = some (.lst (ps'.map prS)) ∧ Along ord ps' ∧ ps'.length = ps.length + 1 ∧ h'.length = h.length ∧ (∀ i, i ≠ b → i ≠ n → h'[i]? = h[i]?) ∧ isBox h' b := by
  obtain ⟨_, h1, e1, j, rfl, j1, g1⟩ := s_takeN H hc (n := (ord.length : Int) - 1) hb (by omega) (by omega)
  obtain ⟨_, h2, e2, i, rfl, i1, g2⟩ := s_takeN H hc (n := 1 + (j : Int)) g1.2.2 (by omega) (by omega)
  have gg := g1.trans g2
  have u0 : (ord.map sD).length = ord.length := List.length_map ..
  have hj : j + 1 < ord.length := by omega
  have hi : i < ord.length := by omega
  have u1 : (ord.map sD)[i]? = some (.str ord[i]) := by rw [List.getElem?_map, List.getElem?_eq_getElem hi]; rfl
  have u2 : (ord.map sD)[((1 : Int) + (j : Int)).toNat]? = some (.str ord[j + 1]) := by
    rw [show ((1 : Int) + (j : Int)).toNat = j + 1 by omega, List.getElem?_map, List.getElem?_eq_getElem hj]; rfl
  have u3 : (0 : Int) ≤ 1 + j := by omega
  have hA1 : h1[n]? = some (.lst (ps.map prS)) := (g1.get hn).trans hA
  have hA2 : h2[n]? = some (.lst (ps.map prS)) := (gg.get hn).trans hA
  have hn2 : n < h2.length := (List.getElem?_eq_some_iff.mp hA2).1
  have hsz : (ps.map prS).length < sizeL := by rw [List.length_map]; show _ < 16777216; omega
  simp only [b1__law_pairs]
  walk_at "dy*"
  refine .nx ⟨_, ps ++ [(ord[i], ord[j + 1])], rfl, ?_, ?_, by simp, ?_, ?_, ?_⟩
  · rw [List.getElem?_set_self hn2, List.map_append]; rfl
  · intro p hp
    rcases List.mem_append.mp hp with hp | hp
    · exact ha p hp
    · rw [List.mem_singleton.mp hp]
      exact ⟨i, j + 1, by omega, List.getElem?_eq_getElem hi, List.getElem?_eq_getElem hj⟩
  · rw [List.length_set]; exact gg.1
  · intro k h1 h2; rw [List.getElem?_set_ne (Ne.symm h2)]; exact gg.2.1 k h1
  · obtain ⟨x, s, z, e⟩ := gg.2.2; exact ⟨x, s, z, by rw [List.getElem?_set_ne hn]; exact e⟩
theorem s_lpairs (H : HasLPairs T) (hc : At T 3 c) (hb : isBox h b) {y : Day} {most m : Nat} (hy : y.ok most) (hmo : most ≤ 100) (hm : m ≤ 100) :
    Rt (c.call "_law_pairs" [.ref b, y.toD, .int m] [] [] h) fun d h' => ∃ ps : List (Str × Str), d = .lst (ps.map prS) ∧ PairsOk y ps ∧ ps.length ≤ m ∧ Bx b h h' := by
  obtain ⟨c', hc', e⟩ := hc.enter (vs := [.ref b, y.toD, .int m]) (ks := []) (ws := []) H.lpairs rfl h
  have hbl := hb.lt
  rw [e]; clear e
  have hl := nsOf_len hy
  have e1 : compL (lcF c' (.tp (.cons (.nm 3) (.cons (.nm 4) .nil))) x1__law_pairs (.kb true) [some (.ref b), some y.toD, some (.int m), none, none, none, none, none, none]) (y.band.map hingeD) [] h = .ok ((nsOf y).map sD) h := by
    unfold nsOf
    rw [List.map_map]
    refine lc_map hingeD nmD y.band (by have : y.band.length ≤ most := by { have := hy.names.most; rw [List.length_map] at this; exact this }
                                        show _ ≤ 16777216; omega) (fun x hx => ?_)
    refine ⟨[some (.ref b), some y.toD, some (.int m), some (.str x.1), some (ruleD x.2), none, none, none, none], rfl, ?_⟩
    simp only [x1__law_pairs]
    walk_at "dy*"
  obtain ⟨_, h1, e2, l', rfl, pm, g1⟩ := s_mixed H.toHasTake (hc'.mono (by omega)) hb (a := .lst ((nsOf y).map sD)) (l := (nsOf y).map sD) rfl (by rw [List.length_map]; omega) (belL_map (fun _ => rfl) _)
  obtain ⟨ord, rfl, pm0⟩ := perm_map_inv pm (nsOf y) rfl
  have lo : ord.length = (nsOf y).length := pm0.length_eq
  have l1 : h1.length = h.length := g1.1
  have b2 : isBox (h1 ++ [.lst []]) b := Gr.app.box g1.2.2
  obtain ⟨_, h2, e3, t, rfl, t1, g2⟩ := s_takeN H.toHasTake (hc'.mono (by omega)) (h := h1 ++ [.lst []]) (n := (m : Int) + 1) b2 (by omega) (by omega)
  have l2 : h2.length = h.length + 1 := by rw [g2.1, List.length_append, l1]; rfl
  have n2 : h2[h.length]? = some (.lst []) := by rw [g2.get (by omega), ← l1]; simp
  have u0 : (ord.map sD).length = ord.length := List.length_map ..
  have gh : GrB b h h2 := (g1.grb.trans (Gr.app.grb g1.2.2)).trans g2.grb
  have key : ∀ k : Nat, k ≤ m → (1 < ord.length ∨ k = 0) → ∃ w7 w8 h3 ps, forL (.nm 7) (exec c' b1__law_pairs none) (rangeL 0 k) [some (.ref b), some y.toD, some (.int m), none, none, some (.lst (ord.map sD)), some (.ref h.length), none, none] h2 = .nx [some (.ref b), some y.toD, some (.int m), none, none, some (.lst (ord.map sD)), some (.ref h.length), w7, w8] h3 ∧
      h3[h.length]? = some (.lst (ps.map prS)) ∧ Along ord ps ∧ ps.length = k ∧ h3.length = h2.length ∧ (∀ i, i ≠ b → i ≠ h.length → h3[i]? = h2[i]?) ∧ isBox h3 b := by
    intro k hk ho
    obtain ⟨σ', h3, e4, w7, w8, ps, rfl, i1, i2, i3, i4, i5, i6⟩ := for_nm (k := 7) (b := exec c' b1__law_pairs none) (l := rangeL 0 k) (h := h2) (σ := [some (.ref b), some y.toD, some (.int m), none, none, some (.lst (ord.map sD)), some (.ref h.length), none, none])
      (fun i σ h' => ∃ w7 w8 ps, σ = [some (.ref b), some y.toD, some (.int m), none, none, some (.lst (ord.map sD)), some (.ref h.length), w7, w8] ∧ h'[h.length]? = some (.lst (ps.map prS)) ∧ Along ord ps ∧ ps.length = i ∧ h'.length = h2.length ∧ (∀ i, i ≠ b → i ≠ h.length → h'[i]? = h2[i]?) ∧ isBox h' b)
      ⟨none, none, [], rfl, n2, fun p hp => by simp at hp, rfl, rfl, fun _ _ _ => rfl, g2.2.2⟩ (by
        rintro i d σ h' hi ⟨w7, w8, ps, rfl, i1, i2, i3, i4, i5, i6⟩
        obtain ⟨rfl, hi⟩ := rangeL_get0 hi
        obtain ⟨σ2, h4, e5, w8', ps', rfl, j1, j2, j3, j4, j5, j6⟩ := pair_turn H.toHasTake (hc'.mono (by omega)) (h := h') (n := h.length) i6 (by omega) (by omega) (by omega) i1 i2 (by omega) (d1 := some y.toD) (d2 := some (.int m)) (v3 := none) (v4 := none) (v7 := some (.int i)) (v8 := w8)
        exact ⟨_, h4, e5, _, _, ps', rfl, j1, j2, by omega, by omega, fun z z1 z2 => (j5 z z1 z2).trans (i5 z z1 z2), j6⟩)
    rw [rangeL_length] at i3
    exact ⟨w7, w8, h3, ps, e4, i1, i2, by omega, i4, i5, i6⟩
  have nl : ∀ {h3 : Hh} {ps : List (Str × Str)}, h3.length = h2.length → (∀ i, i ≠ b → i ≠ h.length → h3[i]? = h2[i]?) → isBox h3 b → Along ord ps → ps.length ≤ m → Rt (leave h (.rt (.lst (ps.map prS)) (h3.set h.length .dead))) fun d h' => ∃ ps : List (Str × Str), d = .lst (ps.map prS) ∧ PairsOk y ps ∧ ps.length ≤ m ∧ Bx b h h' := by
    intro h3 ps q1 q2 q3 q4 q5
    have g3 : GrB b h (h3.set h.length .dead) := by
      refine ⟨by rw [List.length_set]; omega, fun i hi ne => ?_, ?_⟩
      · rw [List.getElem?_set_ne (by omega), q2 i ne (by omega)]
        exact gh.2.1 i hi ne
      · obtain ⟨x, s, z, e⟩ := q3; exact ⟨x, s, z, by rw [List.getElem?_set_ne (by omega)]; exact e⟩
    refine .rtB hbl g3 (belL_map (fun p => rfl) ps) fun h' e' => ⟨ps, rfl, Along.ok pm0 hy.names.nodup q4 (by omega), q5, e'⟩
  simp only [f__law_pairs]
  simp only [Day.toD] at *
  by_cases q : (1 : Int) < ((nsOf y).length : Int)
  · obtain ⟨w7, w8, h3, ps, e4, i1, i2, i3, i4, i5, i6⟩ := key t (by omega) (.inl (by omega))
    have m1 : (t : Int) * 1 = t := by omega
    have ti : (t : Int) ≤ 1000000 := by omega
    have fin := nl i4 i5 i6 i2 (by omega)
    clear nl key
    walk_at "dy*"
  · obtain ⟨w7, w8, h3, ps, e4, i1, i2, i3, i4, i5, i6⟩ := key 0 (by omega) (.inr rfl)
    have m1 : (t : Int) * 0 = 0 := by omega
    have fin := nl i4 i5 i6 i2 (by omega)
    clear nl key
    simp only [Int.natCast_zero] at e4
    walk_at "dy*"
end Dy
end

section
set_option Elab.async false
set_option linter.all false
set_option maxRecDepth 100000
set_option maxHeartbeats 0
namespace Dy
open PySem PySem.Spec PyProof.Rows L2
def top (i : Nat) : Stmt := PySem.Challenge.pw_dayhinges_k19_who_may_come_next.main.body.getD i (.Pass ⟨0, 0, 0, 0⟩)
/-! names_of -/
def d_names_of : He.DefD := ⟨("names_of", none), "names_of", "names_of", defArgs (top 6), defBody (top 6), defScope (top 6), [], []⟩
def e_names_of : DE := ⟨d_names_of, f_names_of, ["day", "name", "rule"], [(1, [])]⟩
theorem b_names_of : PBs e_names_of e_names_of.pats := ⟨fun k f fd F => pbind_pos (e := e_names_of) 1 rfl rfl rfl (fun _ _ _ _ _ _ us hl => match us, hl with | [_], _ => rfl) k f fd F, trivial⟩
/-! is_constraint -/
def d_is_constraint : He.DefD := ⟨("is_constraint", none), "is_constraint", "is_constraint", defArgs (top 8), defBody (top 8), defScope (top 8), [], []⟩
def e_is_constraint : DE := ⟨d_is_constraint, f_is_constraint, ["names", "item", "name"], [(2, [])]⟩
theorem b_is_constraint : PBs e_is_constraint e_is_constraint.pats := ⟨fun k f fd F => pbind_pos (e := e_is_constraint) 2 rfl rfl rfl (fun _ _ _ _ _ _ us hl => match us, hl with | [_, _], _ => rfl) k f fd F, trivial⟩
/-! cycle_among -/
def d_cycle_among : He.DefD := ⟨("cycle_among", none), "cycle_among", "cycle_among", defArgs (top 9), defBody (top 9), defScope (top 9), [], []⟩
def e_cycle_among : DE := ⟨d_cycle_among, f_cycle_among, ["pairs", "names", "path", "previous", "a", "b"], [(2, [])]⟩
theorem b_cycle_among : PBs e_cycle_among e_cycle_among.pats := ⟨fun k f fd F => pbind_pos (e := e_cycle_among) 2 rfl rfl rfl (fun _ _ _ _ _ _ us hl => match us, hl with | [_, _], _ => rfl) k f fd F, trivial⟩
/-! find_cycle -/
def d_find_cycle : He.DefD := ⟨("find_cycle", none), "find_cycle", "find_cycle", defArgs (top 10), defBody (top 10), defScope (top 10), [], []⟩
def e_find_cycle : DE := ⟨d_find_cycle, f_find_cycle, ["day", "pairs", "left", "a", "b", "bound", "name", "free"], [(2, [])]⟩
theorem b_find_cycle : PBs e_find_cycle e_find_cycle.pats := ⟨fun k f fd F => pbind_pos (e := e_find_cycle) 2 rfl rfl rfl (fun _ _ _ _ _ _ us hl => match us, hl with | [_, _], _ => rfl) k f fd F, trivial⟩
/-! check_pairs -/
def d_check_pairs : He.DefD := ⟨("check_pairs", none), "check_pairs", "check_pairs", defArgs (top 11), defBody (top 11), defScope (top 11), [], []⟩
def e_check_pairs : DE := ⟨d_check_pairs, f_check_pairs, ["day", "pairs", "names", "at", "item", "cycle"], [(2, [])]⟩
theorem b_check_pairs : PBs e_check_pairs e_check_pairs.pats := ⟨fun k f fd F => pbind_pos (e := e_check_pairs) 2 rfl rfl rfl (fun _ _ _ _ _ _ us hl => match us, hl with | [_, _], _ => rfl) k f fd F, trivial⟩
/-! coming -/
def d_coming : He.DefD := ⟨("coming", none), "coming", "coming", defArgs (top 12), defBody (top 12), defScope (top 12), [], []⟩
def e_coming : DE := ⟨d_coming, f_coming, ["day", "pairs", "come", "a", "b", "blocked", "name"], [(3, [])]⟩
theorem b_coming : PBs e_coming e_coming.pats := ⟨fun k f fd F => pbind_pos (e := e_coming) 3 rfl rfl rfl (fun _ _ _ _ _ _ us hl => match us, hl with | [_, _, _], _ => rfl) k f fd F, trivial⟩
/-! next_visitors -/
def d_next_visitors : He.DefD := ⟨("next_visitors", none), "next_visitors", "next_visitors", defArgs (top 13), defBody (top 13), defScope (top 13), [], []⟩
def e_next_visitors : DE := ⟨d_next_visitors, f_next_visitors, ["day", "pairs", "come", "name"], [(3, [])]⟩
theorem b_next_visitors : PBs e_next_visitors e_next_visitors.pats := ⟨fun k f fd F => pbind_pos (e := e_next_visitors) 3 rfl rfl rfl (fun _ _ _ _ _ _ us hl => match us, hl with | [_, _, _], _ => rfl) k f fd F, trivial⟩
/-! _law_box -/
def d__law_box : He.DefD := ⟨("_law_box", none), "_law_box", "_law_box", defArgs (top 15), defBody (top 15), defScope (top 15), [], []⟩
def e__law_box : DE := ⟨d__law_box, f__law_box, ["_law_script", "_law_k", "_law_cell", "_law_seed"], [(2, [])]⟩
theorem b__law_box : PBs e__law_box e__law_box.pats := ⟨fun k f fd F => pbind_pos (e := e__law_box) 2 rfl rfl rfl (fun _ _ _ _ _ _ us hl => match us, hl with | [_, _], _ => rfl) k f fd F, trivial⟩
/-! _law_take -/
def d__law_take : He.DefD := ⟨("_law_take", none), "_law_take", "_law_take", defArgs (top 16), defBody (top 16), defScope (top 16), [], []⟩
def e__law_take : DE := ⟨d__law_take, f__law_take, ["_law_box_here", "_law_many", "_law_digit", "_law_one"], [(2, [])]⟩
theorem b__law_take : PBs e__law_take e__law_take.pats := ⟨fun k f fd F => pbind_pos (e := e__law_take) 2 rfl rfl rfl (fun _ _ _ _ _ _ us hl => match us, hl with | [_, _], _ => rfl) k f fd F, trivial⟩
/-! _law_mixed -/
def d__law_mixed : He.DefD := ⟨("_law_mixed", none), "_law_mixed", "_law_mixed", defArgs (top 17), defBody (top 17), defScope (top 17), [], []⟩
def e__law_mixed : DE := ⟨d__law_mixed, f__law_mixed, ["_law_box_here", "_law_items", "_law_left", "_law_found", "_law_turn"], [(2, [])]⟩
theorem b__law_mixed : PBs e__law_mixed e__law_mixed.pats := ⟨fun k f fd F => pbind_pos (e := e__law_mixed) 2 rfl rfl rfl (fun _ _ _ _ _ _ us hl => match us, hl with | [_, _], _ => rfl) k f fd F, trivial⟩
/-! _law_names -/
def d__law_names : He.DefD := ⟨("_law_names", none), "_law_names", "_law_names", defArgs (top 18), defBody (top 18), defScope (top 18), [], []⟩
def e__law_names : DE := ⟨d__law_names, f__law_names, ["_law_box_here", "_law_many", "_law_letters", "_law_form", "_law_words", "_law_first", "_law_turn", "_law_stem", "_law_k", "_law_at", "_law_found", "_law_letter"], [(2, [])]⟩
theorem b__law_names : PBs e__law_names e__law_names.pats := ⟨fun k f fd F => pbind_pos (e := e__law_names) 2 rfl rfl rfl (fun _ _ _ _ _ _ us hl => match us, hl with | [_, _], _ => rfl) k f fd F, trivial⟩
/-! _law_action -/
def d__law_action : He.DefD := ⟨("_law_action", none), "_law_action", "_law_action", defArgs (top 19), defBody (top 19), defScope (top 19), [], []⟩
def e__law_action : DE := ⟨d__law_action, f__law_action, ["_law_box_here", "_law_things", "_law_places", "_law_place", "_law_form"], [(3, [])]⟩
theorem b__law_action : PBs e__law_action e__law_action.pats := ⟨fun k f fd F => pbind_pos (e := e__law_action) 3 rfl rfl rfl (fun _ _ _ _ _ _ us hl => match us, hl with | [_, _, _], _ => rfl) k f fd F, trivial⟩
/-! _law_case -/
def d__law_case : He.DefD := ⟨("_law_case", none), "_law_case", "_law_case", defArgs (top 20), defBody (top 20), defScope (top 20), [], []⟩
def e__law_case : DE := ⟨d__law_case, f__law_case, ["_law_box_here", "_law_things", "_law_places", "_law_wide", "_law_left", "_law_conditions", "_law_turn", "_law_many", "_law_actions"], [(3, [])]⟩
theorem b__law_case : PBs e__law_case e__law_case.pats := ⟨fun k f fd F => pbind_pos (e := e__law_case) 3 rfl rfl rfl (fun _ _ _ _ _ _ us hl => match us, hl with | [_, _, _], _ => rfl) k f fd F, trivial⟩
/-! _law_rule -/
def d__law_rule : He.DefD := ⟨("_law_rule", none), "_law_rule", "_law_rule", defArgs (top 21), defBody (top 21), defScope (top 21), [], []⟩
def e__law_rule : DE := ⟨d__law_rule, f__law_rule, ["_law_box_here", "_law_things", "_law_places", "_law_many", "_law_turn"], [(3, [])]⟩
theorem b__law_rule : PBs e__law_rule e__law_rule.pats := ⟨fun k f fd F => pbind_pos (e := e__law_rule) 3 rfl rfl rfl (fun _ _ _ _ _ _ us hl => match us, hl with | [_, _, _], _ => rfl) k f fd F, trivial⟩
/-! _law_day -/
def d__law_day : He.DefD := ⟨("_law_day", none), "_law_day", "_law_day", defArgs (top 22), defBody (top 22), defScope (top 22), [], []⟩
def e__law_day : DE := ⟨d__law_day, f__law_day, ["_law_box_here", "_law_most", "_law_things", "_law_wide", "_law_places", "_law_names_here", "_law_turn", "_law_start", "_law_name"], [(2, [])]⟩
theorem b__law_day : PBs e__law_day e__law_day.pats := ⟨fun k f fd F => pbind_pos (e := e__law_day) 2 rfl rfl rfl (fun _ _ _ _ _ _ us hl => match us, hl with | [_, _], _ => rfl) k f fd F, trivial⟩
/-! _law_pairs -/
def d__law_pairs : He.DefD := ⟨("_law_pairs", none), "_law_pairs", "_law_pairs", defArgs (top 23), defBody (top 23), defScope (top 23), [], []⟩
def e__law_pairs : DE := ⟨d__law_pairs, f__law_pairs, ["_law_box_here", "_law_day_here", "_law_most", "_law_name", "_law_rule_here", "_law_order", "_law_found", "_law_turn", "_law_late"], [(3, [])]⟩
theorem b__law_pairs : PBs e__law_pairs e__law_pairs.pats := ⟨fun k f fd F => pbind_pos (e := e__law_pairs) 3 rfl rfl rfl (fun _ _ _ _ _ _ us hl => match us, hl with | [_, _, _], _ => rfl) k f fd F, trivial⟩
/-! _law_due -/
def x1__law_due : Ex := (.var 6)
def x2__law_due : Ex := (.cmp .eq (.var 7) (.var 4))
def x3__law_due : Ex := (.var 6)
def x4__law_due : Ex := (.cmp .nin (.var 6) (.var 2))
def b1__law_due : St := (.cons (.asg (.nm 8) (.lc false x1__law_due (.tp (.cons (.nm 6) (.cons (.nm 7) .nil))) (.var 1) x2__law_due))
 (.cons (.if_ (.and (.cmp .nin (.var 4) (.var 2)) (.cmp .eq (.lc false x3__law_due (.nm 6) (.var 8) x4__law_due) (.lst false .nil))) (.cons (.ex (.met false .append (.var 3) (.cons (.var 4) .nil)))
 .nil) .nil)
 .nil))
def f__law_due : Fn := ⟨["_law_day_here", "_law_pairs_here", "_law_come"], [], 9,
 (.cons (.asg (.nm 3) (.lst true .nil))
 (.cons (.for_ (.tp (.cons (.nm 4) (.cons (.nm 5) .nil))) (.sub (.var 0) (.ki 2)) b1__law_due)
 (.cons (.frzv 3)
 (.cons (.ret (.blt false .tuple (.cons (.var 3) .nil)))
 .nil))))⟩
def d__law_due : He.DefD := ⟨("_law_due", none), "_law_due", "_law_due", defArgs (top 24), defBody (top 24), defScope (top 24), [], []⟩
def e__law_due : DE := ⟨d__law_due, f__law_due, ["_law_day_here", "_law_pairs_here", "_law_come", "_law_found", "_law_name", "_law_rule_here", "_law_a", "_law_b", "_law_before"], [(3, [])]⟩
theorem b__law_due : PBs e__law_due e__law_due.pats := ⟨fun k f fd F => pbind_pos (e := e__law_due) 3 rfl rfl rfl (fun _ _ _ _ _ _ us hl => match us, hl with | [_, _, _], _ => rfl) k f fd F, trivial⟩
/-! _law_unknown -/
def f__law_unknown : Fn := ⟨["_law_day_here", "_law_pairs_here", "_law_come"], [], 5,
 (.cons (.asg (.nm 3) .kn)
 (.cons (.try_ (.cons (.ex (.call "next_visitors" (.cons (.var 0) (.cons (.var 1) (.cons (.var 2) .nil))) [] .nil))
 .nil) (.hcons [.noName] (some 4) (.cons (.if_ (.and (.ise 4 [.keyError]) (.not (.ise 4 [.dayError, .valueError]))) (.cons (.asg (.nm 3) (.exf 4 "name"))
 .nil) .nil)
 .nil) .hnil))
 (.cons (.ret (.var 3))
 .nil)))⟩
def d__law_unknown : He.DefD := ⟨("_law_unknown", none), "_law_unknown", "_law_unknown", defArgs (top 25), defBody (top 25), defScope (top 25), [], []⟩
def e__law_unknown : DE := ⟨d__law_unknown, f__law_unknown, ["_law_day_here", "_law_pairs_here", "_law_come", "_law_found", "e"], [(3, [])]⟩
theorem b__law_unknown : PBs e__law_unknown e__law_unknown.pats := ⟨fun k f fd F => pbind_pos (e := e__law_unknown) 3 rfl rfl rfl (fun _ _ _ _ _ _ us hl => match us, hl with | [_, _, _], _ => rfl) k f fd F, trivial⟩
/-! law -/
def x1_law : Ex := (.var 4)
def x2_law : Ex := (.var 4)
def x3_law : Ex := (.cmp .nin (.var 4) (.var 6))
def b1_law : St := (.cons (.asg (.nm 10) (.sli false (.call "_law_mixed" (.cons (.var 2) (.cons (.var 6) .nil)) [] .nil) .kn (.call "_law_take" (.cons (.var 2) (.cons (.bin false .add (.blt false .len (.cons (.var 6) .nil)) (.ki 1)) .nil)) [] .nil)))
 (.cons (.asg (.nm 11) (.ife (.cmp .eq (.call "_law_take" (.cons (.var 2) (.cons (.ki 2) .nil)) [] .nil) (.ki 0)) (.var 10) (.blt false .tuple (.cons (.var 10) .nil))))
 (.cons (.asg (.nm 12) (.blt false .repr (.cons (.var 11) .nil)))
 (.cons (.asg (.nm 13) (.call "_law_due" (.cons (.var 3) (.cons (.var 7) (.cons (.var 11) .nil))) [] .nil))
 (.cons (.if_ (.or (.cmp .ne (.blt false .repr (.cons (.call "next_visitors" (.cons (.var 3) (.cons (.var 7) (.cons (.var 11) .nil))) [] .nil) .nil)) (.blt false .repr (.cons (.var 13) .nil))) (.cmp .ne (.blt false .repr (.cons (.var 11) .nil)) (.var 12))) (.cons (.ret (.kb false))
 .nil) .nil)
 (.cons (.if_ (.cmp .ne (.call "next_visitors" (.cons (.var 3) (.cons (.blt false .tuple (.cons (.var 7) .nil)) (.cons (.blt false .tuple (.cons (.var 10) .nil)) .nil))) [] .nil) (.var 13)) (.cons (.ret (.kb false))
 .nil) .nil)
 (.cons (.asg (.nm 14) (.lc false x2_law (.nm 4) (.tup (.cons (.ks "zzzzzz") (.cons (.ks "A") (.cons (.ks "") (.cons (.bin false .add (.sub (.var 6) (.ki 0)) (.ks "Z")) (.cons (.ks "yyyyyy") .nil)))))) x3_law))
 (.cons (.asg (.nm 14) (.sli false (.call "_law_mixed" (.cons (.var 2) (.cons (.var 14) .nil)) [] .nil) .kn (.ki 2)))
 (.cons (.asg (.nm 15) (.call "_law_take" (.cons (.var 2) (.cons (.bin false .add (.blt false .len (.cons (.var 10) .nil)) (.ki 1)) .nil)) [] .nil))
 (.cons (.asg (.nm 16) (.bin false .add (.bin false .add (.bin false .add (.sli false (.var 10) .kn (.var 15)) (.sli false (.var 14) .kn (.ki 1))) (.sli false (.var 10) (.var 15) .kn)) (.sli false (.var 14) (.ki 1) .kn)))
 (.cons (.asg (.nm 12) (.blt false .repr (.cons (.var 16) .nil)))
 (.cons (.if_ (.or (.cmp .ne (.call "_law_unknown" (.cons (.var 3) (.cons (.var 7) (.cons (.var 16) .nil))) [] .nil) (.sub (.var 14) (.ki 0))) (.cmp .ne (.call "_law_unknown" (.cons (.var 3) (.cons (.var 7) (.cons (.blt false .tuple (.cons (.var 16) .nil)) .nil))) [] .nil) (.sub (.var 14) (.ki 0)))) (.cons (.ret (.kb false))
 .nil) .nil)
 (.cons (.if_ (.or (.cmp .ne (.blt false .repr (.cons (.var 7) .nil)) (.var 8)) (.cmp .ne (.blt false .repr (.cons (.var 16) .nil)) (.var 12))) (.cons (.ret (.kb false))
 .nil) .nil)
 .nil)))))))))))))
def b2_law : St := (.cons (.asg (.nm 2) (.call "_law_box" (.cons (.var 0) (.cons (.var 1) .nil)) [] .nil))
 (.cons (.asg (.nm 3) (.call "_law_day" (.cons (.var 2) (.cons (.sub (.lst false (.cons (.ki 6) (.cons (.ki 5) (.cons (.ki 4) .nil)))) (.call "_law_take" (.cons (.var 2) (.cons (.ki 3) .nil)) [] .nil)) .nil)) [] .nil))
 (.cons (.asg (.tp (.cons (.nm 6) (.cons (.nm 7) .nil))) (.tup (.cons (.lc false x1_law (.tp (.cons (.nm 4) (.cons (.nm 5) .nil))) (.sub (.var 3) (.ki 2)) (.kb true)) (.cons (.call "_law_pairs" (.cons (.var 2) (.cons (.var 3) (.cons (.sub (.lst false (.cons (.ki 2) (.cons (.ki 10) (.cons (.ki 40) .nil)))) (.call "_law_take" (.cons (.var 2) (.cons (.ki 3) .nil)) [] .nil)) .nil))) [] .nil) .nil))))
 (.cons (.asg (.nm 8) (.blt false .repr (.cons (.var 7) .nil)))
 (.cons (.for_ (.nm 9) (.rng (.cons (.ki 6) .nil)) b1_law)
 .nil)))))
def f_law : Fn := ⟨["_law_script"], [], 17,
 (.cons (.for_ (.nm 1) (.rng (.cons (.blt false .max (.cons (.ki 2) (.cons (.blt false .min (.cons (.ki 6) (.cons (.blt false .len (.cons (.var 0) .nil)) .nil))) .nil))) .nil)) b2_law)
 (.cons (.ret (.kb true))
 .nil))⟩
def d_law : He.DefD := ⟨("law", none), "law", "law", defArgs (top 26), defBody (top 26), defScope (top 26), [], []⟩
def e_law : DE := ⟨d_law, f_law, ["_law_script", "_law_k", "_law_box_here", "_law_day_here", "_law_name", "_law_rule_here", "_law_names_here", "_law_pairs_here", "_law_kept_pairs", "_law_turn", "_law_some", "_law_come", "_law_kept", "_law_due_here", "_law_lost", "_law_at", "_law_odd"], [(1, [])]⟩
theorem b_law : PBs e_law e_law.pats := ⟨fun k f fd F => pbind_pos (e := e_law) 1 rfl rfl rfl (fun _ _ _ _ _ _ us hl => match us, hl with | [_], _ => rfl) k f fd F, trivial⟩
def es0 : List DE := [e_names_of, e_is_constraint, e_cycle_among, e_find_cycle, e_check_pairs, e_coming, e_next_visitors, e__law_box, e__law_take, e__law_mixed, e__law_names, e__law_action, e__law_case, e__law_rule, e__law_day, e__law_pairs, e__law_due, e__law_unknown, e_law]
def es : List DE := es0
def clsIt (s : Stmt) (j : Nat) : Stmt := match s with
  | .ClassDef _ _ _ b _ _ _ _ _ _ _ => b.getD j (.Pass ⟨0, 0, 0, 0⟩)
  | s => s
def xs : List EC := [.cycle, .noPair, .noName, .keyError, .dayError, .valueError]
def xe_Cycle : XE := ⟨.cycle, ⟨("Cycle", some "__init__"), "__init__", "Cycle.__init__", defArgs (clsIt (top 3) 0), defBody (clsIt (top 3) 0), defScope (clsIt (top 3) 0), [], []⟩⟩
theorem xb_Cycle : xe_Cycle.Bd := fun _ _ _ _ _ _ us hl => match us, hl with | [_, _], _ => rfl
def xe_NoPair : XE := ⟨.noPair, ⟨("NoPair", some "__init__"), "__init__", "NoPair.__init__", defArgs (clsIt (top 2) 0), defBody (clsIt (top 2) 0), defScope (clsIt (top 2) 0), [], []⟩⟩
theorem xb_NoPair : xe_NoPair.Bd := fun _ _ _ _ _ _ us hl => match us, hl with | [_, _], _ => rfl
def xe_NoName : XE := ⟨.noName, ⟨("NoName", some "__init__"), "__init__", "NoName.__init__", defArgs (clsIt (top 4) 0), defBody (clsIt (top 4) 0), defScope (clsIt (top 4) 0), [], []⟩⟩
theorem xb_NoName : xe_NoName.Bd := fun _ _ _ _ _ _ us hl => match us, hl with | [_, _], _ => rfl
def xes : List XE := [xe_Cycle, xe_NoPair, xe_NoName]
def ts : List (Str × D) := []
def fa0 : List He.Fa := [.glo "names_of", .glo "is_constraint", .glo "cycle_among", .glo "find_cycle", .glo "check_pairs", .glo "coming", .glo "next_visitors", .glo "_law_box", .glo "_law_take", .glo "_law_mixed", .glo "_law_names", .glo "_law_action", .glo "_law_case", .glo "_law_rule", .glo "_law_day", .glo "_law_pairs", .glo "_law_due", .glo "_law_unknown", .glo "law", .free "len", .free "tuple", .free "list", .free "all", .free "any", .free "sorted"]
def fa1 : List He.Fa := [.free "int", .free "str", .free "max", .free "min", .free "abs", .free "repr", .free "bool", .free "isinstance", .free "range", .free "enumerate", .free "zip", .free "reversed", .free "set", .free "dict", .free "sum"]
def fa : List He.Fa := fa0 ++ fa1
def lo0 : List Str := ["DayError", "NoPair", "Cycle", "NoName", "names_of", "is_constraint", "cycle_among", "find_cycle", "check_pairs", "coming", "next_visitors", "_law_box", "_law_take", "_law_mixed", "_law_names", "_law_action", "_law_case", "_law_rule", "_law_day", "_law_pairs", "_law_due", "_law_unknown"]
def lo : List Str := lo0
noncomputable abbrev T : Tx := mkT es ts
theorem fn_names_of : T.fn "names_of" = some f_names_of := by rfl
theorem fn_is_constraint : T.fn "is_constraint" = some f_is_constraint := by rfl
theorem fn_cycle_among : T.fn "cycle_among" = some f_cycle_among := by rfl
theorem fn_find_cycle : T.fn "find_cycle" = some f_find_cycle := by rfl
theorem fn_check_pairs : T.fn "check_pairs" = some f_check_pairs := by rfl
theorem fn_coming : T.fn "coming" = some f_coming := by rfl
theorem fn_next_visitors : T.fn "next_visitors" = some f_next_visitors := by rfl
theorem fn__law_box : T.fn "_law_box" = some f__law_box := by rfl
theorem fn__law_take : T.fn "_law_take" = some f__law_take := by rfl
theorem fn__law_mixed : T.fn "_law_mixed" = some f__law_mixed := by rfl
theorem fn__law_names : T.fn "_law_names" = some f__law_names := by rfl
theorem fn__law_action : T.fn "_law_action" = some f__law_action := by rfl
theorem fn__law_case : T.fn "_law_case" = some f__law_case := by rfl
theorem fn__law_rule : T.fn "_law_rule" = some f__law_rule := by rfl
theorem fn__law_day : T.fn "_law_day" = some f__law_day := by rfl
theorem fn__law_pairs : T.fn "_law_pairs" = some f__law_pairs := by rfl
theorem fn__law_due : T.fn "_law_due" = some f__law_due := by rfl
theorem fn__law_unknown : T.fn "_law_unknown" = some f__law_unknown := by rfl
theorem fn_law : T.fn "law" = some f_law := by rfl
abbrev RR : PySem.W.OpenRow := PySem.W.OpenLaw.row PySem.Challenge.rw_dayhinges_k19_who_may_come_next
abbrev hk : PySem.W.Hook := hookY 5 fa ts xs xes (fnsOf es xes)
def ob (s : PySem.W.SharedT) : He.AlD := obsYG 5 fa ts xs xes (fnsOf es xes) (HandSHeadRun.getT s)
theorem ob_eq (s : PySem.W.SharedT) : ob s = hk.obs s.abs := obsYG_eq (HandSHeadRun.getT_eq s)
theorem topRun (w : World) : HandSHeadRun.RunEq RR (PySem.W.view RR.prog [26]) hk ob 4000 lo w := by
  intro os
  kernel_rfl
theorem chk_all : es.all (fun e => e.okB (allPats es) false xs) = true := by decide +kernel
theorem glo_all : (es.all fun e => fa.any fun f => match f with | .glo x => decide (x = e.dd.name) | _ => false) = true := by decide +kernel
theorem blt_all : (bltNames.all fun x => fa.any fun f => match f with | .free y => decide (y = x) | _ => false) = true := by decide +kernel
theorem nd_all : (es.map fun e => e.dd.name).Nodup := by decide +kernel
theorem pb_all : ∀ e ∈ es, PBs e e.pats := by
  intro e he
  simp only [es, es0, List.append_assoc, List.cons_append, List.nil_append, List.mem_cons, List.not_mem_nil, or_false] at he
  rcases he with rfl | rfl | rfl | rfl | rfl | rfl | rfl | rfl | rfl | rfl | rfl | rfl | rfl | rfl | rfl | rfl | rfl | rfl | rfl
  · exact b_names_of
  · exact b_is_constraint
  · exact b_cycle_among
  · exact b_find_cycle
  · exact b_check_pairs
  · exact b_coming
  · exact b_next_visitors
  · exact b__law_box
  · exact b__law_take
  · exact b__law_mixed
  · exact b__law_names
  · exact b__law_action
  · exact b__law_case
  · exact b__law_rule
  · exact b__law_day
  · exact b__law_pairs
  · exact b__law_due
  · exact b__law_unknown
  · exact b_law
theorem x_dfl : ∀ x ∈ xes, x.dd.dfl = [] := by simp [xes, xe_Cycle, xe_NoPair, xe_NoName]
theorem x_bd : ∀ x ∈ xes, x.Bd := by
  intro x hx
  simp only [xes, List.mem_cons, List.not_mem_nil, or_false] at hx
  rcases hx with rfl | rfl | rfl
  · exact xb_Cycle
  · exact xb_NoPair
  · exact xb_NoName
theorem law_at {P : Program} {w : World} {mg : Str → Option Value} {h : Heap} (G : h.Ns mainGlobals mg) {K : PySem.W.Frag} (X : K.In h) (c : SaysY fa ts xs xes (fnsOf es xes) K) : ∃ k : Kx, k.K.In h ∧ LawAt P w k mg T :=
  ⟨⟨K, P, w, fun _ => 0, ecOf K xs⟩, X, rfl, rfl, ⟨allPats es, false, xs, fun base => says_ok X G c chk_all glo_all blt_all nd_all pb_all (by decide +kernel) x_dfl x_bd (by decide +kernel) base, by decide +kernel⟩⟩
end Dy
end

section
set_option linter.all false
set_option maxRecDepth 100000
set_option maxHeartbeats 1000000
set_option Elab.async false
namespace Dy
open PySem
local macro_rules | `(tactic| walk_at "dy") => `(tactic| simp -implicitDefEqProofs only [eS_nil, eS_cons, eS_asg, eS_asgS, eS_asgSS, kSS0, kSS1, kSS2, kSS3, kSS4, eS_aug, eS_ex, eS_for, eS_while, eS_if, eS_ret, eS_retN, eS_raise, eS_brk, eS_cnt, eS_pass, eS_try, eS_hnil, kTry_nx, kTry_rt, kTry_bk, kTry_ct, kTry_ex, eS_hyesN, eS_hyes0, eS_hno, calmF_nx, calmF_rt, calmF_bk, calmF_ct, unas_nx, unas_rt, unas_bk, unas_ct, set_end, get_end, eS_frzv, eT, nx_then, eE_nil, eE_cons, eE_var, eE_kn, eE_kb, eE_ki, eE_ks, eE_glo, eE_bin, eE_neg, eE_cmp, eE_cmp2, eE_not, eE_and, eE_or, eE_ife, eE_tup, eE_lst, eE_call, eE_blt, eE_met, eE_isi, eE_sub, eE_sli, eE_rev, eE_lc, eE_listr, eE_rng, eE_enum, eE_zip, kZip, zipD, eE_exf, eE_ise, exM_exc, exOf_ref, kIse_1, kIse_2, kExf_word, kExf_visitor, kExf_case, kExf_row, kExf_atV, kExf_atO, kExf_atP, kExf_names, kExf_many, kExf_wordM, kExf_most, kExf_atB, kExf_name, seqP_p, seqP_t, seqP_l, seqP_r, lsOf_t, lsOf_l, lsOf_d, EC.fs, EC.leaf, eE_frz,
  varM_some, kCons, kCons2, kBin, kNeg, kBl, kCmp, kCmp2, kC21, kC22, kC23, kNot, kNot2, kAnd, kAnd2, kOr, kOr2, kIfe, kIfe2, kLst, kCall, kCall2, kBlt, kMet, kMet2, kIsi, kSub, kSub2, kSli, kSli1, kSli2, kRev, kLc, kLc2, kRng_1, kRng_nat, kRng_2, kEnum, kFrz, ofS_some, kAsg, kNx, kAS1, kAS2, kAS3, kAug, augM, kTru, kFor, kFor2, kIf, kRaise, frzM, frzM2, asTup,
  R.bind_ok, R.bind_ex, R.go_ok, R.go_ex, Fl.then_ex, Fl.turn_ex, Fl.then_nx, Fl.then_rt, Fl.then_bk, Fl.then_ct, Fl.turn_nx, Fl.turn_rt, Fl.turn_bk, Fl.turn_ct, R.opt_some, calm_ok, List.map_cons, List.map_nil, List.length_cons, List.length_nil, List.replicate, List.cons_append, List.nil_append, List.append_nil, List.getElem?_cons_zero, List.getElem?_cons_succ, List.set_cons_zero, List.set_cons_succ,
  subD, cmpD, truthy_non, truthy_bl, truthy_int, truthy_str, truthy_tup, truthy_lst, setT, binD, putD, mkL, mkD, bltD, lenD_str, lenD_tup, lenD_lst, lenD_scr, lenD_ref, lenM_lst, clr, Tg.slots, seqOf_t, seqOf_l, seqOf_r, lstOf_l, lstOf_r, lstM_some, metD, Mt.rcv, Mt.kind, D.isStr, known, Ty.has, Ty.isB, srcOf_t, srcOf_l, srcOf_r, srcM_lst, forS_its, compS_its, eqD_int, eqD_str, eqD_bl, res, D.isNon, intOf, intsOf, boolsOf, strsOf, bdR, Ex.isKn, sliD, revD, addL, attrD, mulOk, pow64, enumL,
  List.all_cons, List.all_nil, List.any_cons, List.any_nil, Option.bind_some, Option.map_some, Option.isSome_some, Bool.and_true, Bool.true_and, Bool.or_false, Bool.false_or, Bool.or_true, Bool.true_or, Bool.and_self, Bool.and_false, Bool.false_and, Bool.not_true, Bool.not_false, Bool.not_not, Bool.false_eq_true, decide_eq_true_eq, decide_true, decide_false, if_true, if_false, ite_true, ite_false, ↓reduceIte, ne_eq, not_true_eq_false, not_false_eq_true, and_self, and_true, true_and,
  natC2, natC3, natC4, natC5, natC6, natC7, natC8, natC9, Int.natCast_zero, Int.natCast_one, cutL_to, cutL_from, cutL_ab, cutL_all, Int.zero_add, natAbs_10, Int.reducePow, atL_nat, Int.natCast_nonneg, natGe, Int.toNat_natCast, List.getElem_cons_zero, atL_nn, Int.le_refl, Int.toNat_zero, Int.reduceLT, Int.reduceLE, Int.reduceToNat, Int.reduceNeg, Int.reduceAdd, Int.reduceMul, Int.reduceSub, Int.reduceEq, Int.reduceBNe, Int.reduceBEq, Nat.reduceAdd, Nat.reduceSub, Nat.reduceLT, Nat.reduceEqDiff, Nat.zero_add, Nat.add_zero, List.getElem?_set_self, List.set_set, List.length_set, List.length_append, Int.reduceNeg, reduceCtorEq])
local macro_rules | `(tactic| walk_at "dy*") => `(tactic| simp -implicitDefEqProofs only [eS_nil, eS_cons, eS_asg, eS_asgS, eS_asgSS, kSS0, kSS1, kSS2, kSS3, kSS4, eS_aug, eS_ex, eS_for, eS_while, eS_if, eS_ret, eS_retN, eS_raise, eS_brk, eS_cnt, eS_pass, eS_try, eS_hnil, kTry_nx, kTry_rt, kTry_bk, kTry_ct, kTry_ex, eS_hyesN, eS_hyes0, eS_hno, calmF_nx, calmF_rt, calmF_bk, calmF_ct, unas_nx, unas_rt, unas_bk, unas_ct, set_end, get_end, eS_frzv, eT, nx_then, eE_nil, eE_cons, eE_var, eE_kn, eE_kb, eE_ki, eE_ks, eE_glo, eE_bin, eE_neg, eE_cmp, eE_cmp2, eE_not, eE_and, eE_or, eE_ife, eE_tup, eE_lst, eE_call, eE_blt, eE_met, eE_isi, eE_sub, eE_sli, eE_rev, eE_lc, eE_listr, eE_rng, eE_enum, eE_zip, kZip, zipD, eE_exf, eE_ise, exM_exc, exOf_ref, kIse_1, kIse_2, kExf_word, kExf_visitor, kExf_case, kExf_row, kExf_atV, kExf_atO, kExf_atP, kExf_names, kExf_many, kExf_wordM, kExf_most, kExf_atB, kExf_name, seqP_p, seqP_t, seqP_l, seqP_r, lsOf_t, lsOf_l, lsOf_d, EC.fs, EC.leaf, eE_frz,
  varM_some, kCons, kCons2, kBin, kNeg, kBl, kCmp, kCmp2, kC21, kC22, kC23, kNot, kNot2, kAnd, kAnd2, kOr, kOr2, kIfe, kIfe2, kLst, kCall, kCall2, kBlt, kMet, kMet2, kIsi, kSub, kSub2, kSli, kSli1, kSli2, kRev, kLc, kLc2, kRng_1, kRng_nat, kRng_2, kEnum, kFrz, ofS_some, kAsg, kNx, kAS1, kAS2, kAS3, kAug, augM, kTru, kFor, kFor2, kIf, kRaise, frzM, frzM2, asTup,
  R.bind_ok, R.bind_ex, R.go_ok, R.go_ex, Fl.then_ex, Fl.turn_ex, Fl.then_nx, Fl.then_rt, Fl.then_bk, Fl.then_ct, Fl.turn_nx, Fl.turn_rt, Fl.turn_bk, Fl.turn_ct, R.opt_some, calm_ok, List.map_cons, List.map_nil, List.length_cons, List.length_nil, List.replicate, List.cons_append, List.nil_append, List.append_nil, List.getElem?_cons_zero, List.getElem?_cons_succ, List.set_cons_zero, List.set_cons_succ,
  subD, cmpD, truthy_non, truthy_bl, truthy_int, truthy_str, truthy_tup, truthy_lst, setT, binD, putD, mkL, mkD, bltD, lenD_str, lenD_tup, lenD_lst, lenD_scr, lenD_ref, lenM_lst, clr, Tg.slots, seqOf_t, seqOf_l, seqOf_r, lstOf_l, lstOf_r, lstM_some, metD, Mt.rcv, Mt.kind, D.isStr, known, Ty.has, Ty.isB, srcOf_t, srcOf_l, srcOf_r, srcM_lst, forS_its, compS_its, eqD_int, eqD_str, eqD_bl, res, D.isNon, intOf, intsOf, boolsOf, strsOf, bdR, Ex.isKn, sliD, revD, addL, attrD, mulOk, pow64, enumL,
  List.all_cons, List.all_nil, List.any_cons, List.any_nil, Option.bind_some, Option.map_some, Option.isSome_some, Bool.and_true, Bool.true_and, Bool.or_false, Bool.false_or, Bool.or_true, Bool.true_or, Bool.and_self, Bool.and_false, Bool.false_and, Bool.not_true, Bool.not_false, Bool.not_not, Bool.false_eq_true, decide_eq_true_eq, decide_true, decide_false, if_true, if_false, ite_true, ite_false, ↓reduceIte, ne_eq, not_true_eq_false, not_false_eq_true, and_self, and_true, true_and,
  natC2, natC3, natC4, natC5, natC6, natC7, natC8, natC9, Int.natCast_zero, Int.natCast_one, cutL_to, cutL_from, cutL_ab, cutL_all, Int.zero_add, natAbs_10, Int.reducePow, atL_nat, Int.natCast_nonneg, natGe, Int.toNat_natCast, List.getElem_cons_zero, atL_nn, Int.le_refl, Int.toNat_zero, Int.reduceLT, Int.reduceLE, Int.reduceToNat, Int.reduceNeg, Int.reduceAdd, Int.reduceMul, Int.reduceSub, Int.reduceEq, Int.reduceBNe, Int.reduceBEq, Nat.reduceAdd, Nat.reduceSub, Nat.reduceLT, Nat.reduceEqDiff, Nat.zero_add, Nat.add_zero, List.getElem?_set_self, List.set_set, List.length_set, List.length_append, Int.reduceNeg, reduceCtorEq, *])
variable {T0 : Tx} {c : Cl} {h : Hh} {b : Nat}
theorem hasTake : HasTake T := ⟨fn__law_take, fn__law_mixed⟩
theorem hasAct : HasAct T := ⟨hasTake, fn__law_action⟩
theorem hasCase : HasCase T := ⟨hasAct, fn__law_case⟩
theorem hasRule : HasRule T := ⟨hasCase, fn__law_rule⟩
theorem hasNames : HasNames T := ⟨hasTake, fn__law_names⟩
theorem hasDay : HasDay T := ⟨hasRule, fn__law_names, fn__law_day⟩
theorem hasNext : HasNext T := ⟨⟨fn_names_of, fn_is_constraint, fn_find_cycle, fn_check_pairs⟩, fn_coming, fn_next_visitors⟩
theorem hasLPairs : HasLPairs T := ⟨hasTake, fn__law_pairs⟩
theorem blocked_iff {ps : List (Str × Str)} {cm : List Str} {n : Str} : (((ps.filter fun p => decide (p.2 = n)).map Prod.fst).filter fun a => !decide (a ∈ cm)).isEmpty = !decide (n ∈ (ps.filter fun p => !decide (p.1 ∈ cm)).map Prod.snd) := by
  by_cases q : n ∈ (ps.filter fun p => !decide (p.1 ∈ cm)).map Prod.snd
  · rw [decide_eq_true q, Bool.not_true, List.isEmpty_eq_false_iff]
    obtain ⟨p, hp, rfl⟩ := List.mem_map.mp q
    rw [List.mem_filter] at hp
    intro z
    rw [List.filter_eq_nil_iff] at z
    exact z p.1 (List.mem_map.mpr ⟨p, List.mem_filter.mpr ⟨hp.1, by simp⟩, rfl⟩) hp.2
  · rw [decide_eq_false q, Bool.not_false, List.isEmpty_iff, List.filter_eq_nil_iff]
    intro a ha z
    obtain ⟨p, hp, rfl⟩ := List.mem_map.mp ha
    rw [List.mem_filter] at hp
    exact q (List.mem_map.mpr ⟨p, List.mem_filter.mpr ⟨hp.1, z⟩, by simpa using hp.2⟩)
theorem due_turn (hc : At T 0 c) {ps : List (Str × Str)} {pd cd : D} (hp : IsRow pd (ps.map prS)) (hpl : ps.length ≤ 1000) {cm : List Str} (hcm : IsRow cd (cm.map sD)) {n : Nat} {acc : List Str} (hA : h[n]? = some (.lst (acc.map sD))) (hal : acc.length ≤ 1000) {x : Str × List Case} {d0 v6 v7 v8 : Option D} :
    ∃ w8, exec c b1__law_due none [d0, some pd, some cd, some (.ref n), some (.str x.1), some (ruleD x.2), v6, v7, v8] h = .nx [d0, some pd, some cd, some (.ref n), some (.str x.1), some (ruleD x.2), v6, v7, w8]
      (if (!decide (x.1 ∈ cm) && !decide (x.1 ∈ (ps.filter fun p => !decide (p.1 ∈ cm)).map Prod.snd)) = true then h.set n (.lst ((acc ++ [x.1]).map sD)) else h) := by
  have e1 : compL (lcF c (.tp (.cons (.nm 6) (.cons (.nm 7) .nil))) x1__law_due x2__law_due [d0, some pd, some cd, some (.ref n), some (.str x.1), some (ruleD x.2), v6, v7, v8]) (ps.map prS) [] h = .ok (((ps.filter fun p => decide (p.2 = x.1)).map Prod.fst).map sD) h := by
    rw [List.map_map]
    refine lc_filter prS (fun p => sD p.1) (fun p => decide (p.2 = x.1)) ps (by show _ ≤ 16777216; omega) (fun p hpm => ?_)
    refine ⟨_, rfl, ?_, fun _ => ?_⟩
    · simp only [x2__law_due]
      walk_at "dy*"
    · simp only [x1__law_due]
      walk_at "dy*"
  have hb0 : ((ps.filter fun p => decide (p.2 = x.1)).map Prod.fst).length ≤ 1000 := by rw [List.length_map]; exact Nat.le_trans (List.length_filter_le _ _) hpl
  have bi := blocked_iff (ps := ps) (cm := cm) (n := x.1)
  generalize (ps.filter fun p => decide (p.2 = x.1)).map Prod.fst = bf at e1 hb0 bi
  rw [← bi]
  have e2 := lc_filter (c := c) (t := .nm 6) (e := x3__law_due) (cd := x4__law_due) (σ := [d0, some pd, some cd, some (.ref n), some (.str x.1), some (ruleD x.2), v6, v7, some (.lst (bf.map sD))]) (h := h) sD sD (fun a => !decide (a ∈ cm)) bf (by show _ ≤ 16777216; omega) (fun a ha => by
    refine ⟨_, rfl, ?_, fun _ => ?_⟩
    · have z1 := inR_str (h := h) (x := a) hcm
      simp only [x4__law_due]
      walk_at "dy*"
    · simp only [x3__law_due]
      walk_at "dy*")
  have e3 := inR_str (h := h) (x := x.1) hcm
  have e4 := eqD_nilL (h := h) (l := (bf.filter fun a => !decide (a ∈ cm)).map sD) (pyL_map (fun _ => rfl) _)
  rw [List.isEmpty_map] at e4
  clear bi
  generalize (bf.filter fun a => !decide (a ∈ cm)) = ff at e2 e4 ⊢
  have hsz : (acc.map sD).length < sizeL := by rw [List.length_map]; show _ < 16777216; omega
  have ea : (acc ++ [x.1]).map sD = acc.map sD ++ [.str x.1] := by rw [List.map_append]; rfl
  rw [ea]
  refine ⟨some (.lst (bf.map sD)), ?_⟩
  by_cases q : x.1 ∈ cm
  · rw [decide_eq_true q] at e3 ⊢
    rcases hp with rfl | rfl
    · simp only [b1__law_due]
      walk_at "dy*"
    · simp only [b1__law_due]
      walk_at "dy*"
  · rw [decide_eq_false q] at e3 ⊢
    cases q2 : ff.isEmpty with
    | true =>
      rw [q2] at e4
      rcases hp with rfl | rfl
      · simp only [b1__law_due]
        walk_at "dy*"
      · simp only [b1__law_due]
        walk_at "dy*"
    | false =>
      rw [q2] at e4
      rcases hp with rfl | rfl
      · simp only [b1__law_due]
        walk_at "dy*"
      · simp only [b1__law_due]
        walk_at "dy*"
theorem s_due (hc : At T 1 c) {y : Day} {most : Nat} (hy : y.ok most) (hm : most ≤ 100) {ps : List (Str × Str)} {pd cd : D} (hp : IsRow pd (ps.map prS)) (hpl : ps.length ≤ 1000) {cm : List Str} (hcm : IsRow cd (cm.map sD)) :
    c.call "_law_due" [y.toD, pd, cd] [] [] h = .ok (.tup ((comeV (nsOf y) ps cm).map sD)) h := by
  obtain ⟨c', hc', e⟩ := hc.enter (vs := [y.toD, pd, cd]) (ks := []) (ws := []) fn__law_due rfl h
  rw [e]; clear e
  have hl : y.band.length ≤ most := by have := hy.names.most; rw [List.length_map] at this; exact this
  have key : ∀ (bd : List (Str × List Case)) (acc : List Str) (h' : Hh), h'[h.length]? = some (.lst (acc.map sD)) → acc.length + bd.length ≤ 1000 → Gr h h' → ∀ (v4 v5 v6 v7 v8 : Option D), ∃ w4 w5 w6 w7 w8 h2,
      forL (.tp (.cons (.nm 4) (.cons (.nm 5) .nil))) (exec c' b1__law_due none) (bd.map hingeD) [some y.toD, some pd, some cd, some (.ref h.length), v4, v5, v6, v7, v8] h' = .nx [some y.toD, some pd, some cd, some (.ref h.length), w4, w5, w6, w7, w8] h2 ∧
      h2[h.length]? = some (.lst ((acc ++ comeV (bd.map Prod.fst) ps cm).map sD)) ∧ Gr h h2 := by
    intro bd
    induction bd with
    | nil => intro acc h' i1 _ g v4 v5 v6 v7 v8; exact ⟨v4, v5, v6, v7, v8, h', rfl, by simpa [comeV] using i1, g⟩
    | cons x bd ih =>
      intro acc h' i1 i2 g v4 v5 v6 v7 v8
      have hn : h.length < h'.length := (List.getElem?_eq_some_iff.mp i1).1
      obtain ⟨w8, e1⟩ := due_turn hc' (h := h') hp hpl hcm (n := h.length) i1 (by simp only [List.length_cons] at i2; omega) (x := x) (d0 := some y.toD) (v6 := v6) (v7 := v7) (v8 := v8)
      have e0 : ∀ h3, exec c' b1__law_due none [some y.toD, some pd, some cd, some (.ref h.length), some (.str x.1), some (ruleD x.2), v6, v7, v8] h' = .nx [some y.toD, some pd, some cd, some (.ref h.length), some (.str x.1), some (ruleD x.2), v6, v7, w8] h3 →
          forL (.tp (.cons (.nm 4) (.cons (.nm 5) .nil))) (exec c' b1__law_due none) ((x :: bd).map hingeD) [some y.toD, some pd, some cd, some (.ref h.length), v4, v5, v6, v7, v8] h' = forL (.tp (.cons (.nm 4) (.cons (.nm 5) .nil))) (exec c' b1__law_due none) (bd.map hingeD) [some y.toD, some pd, some cd, some (.ref h.length), some (.str x.1), some (ruleD x.2), v6, v7, w8] h3 := fun h3 e => by
        show (exec c' b1__law_due none [some y.toD, some pd, some cd, some (.ref h.length), some (.str x.1), some (ruleD x.2), v6, v7, v8] h').turn _ = _
        rw [e]; rfl
      by_cases q : (!decide (x.1 ∈ cm) && !decide (x.1 ∈ (ps.filter fun p => !decide (p.1 ∈ cm)).map Prod.snd)) = true
      · rw [if_pos q] at e1
        rw [e0 _ e1]
        obtain ⟨w4, w5, w6, w7, w8', h2, e2, j1, j2⟩ := ih (acc ++ [x.1]) (h'.set h.length (.lst ((acc ++ [x.1]).map sD))) (by rw [List.getElem?_set_self hn]) (by rw [List.length_append, List.length_singleton]; simp only [List.length_cons] at i2; omega)
          ⟨by rw [List.length_set]; exact g.1, fun i hi => by rw [List.getElem?_set_ne (by omega)]; exact g.2 i hi⟩ (some (.str x.1)) (some (ruleD x.2)) v6 v7 w8
        refine ⟨w4, w5, w6, w7, w8', h2, e2, ?_, j2⟩
        have : comeV ((x :: bd).map Prod.fst) ps cm = x.1 :: comeV (bd.map Prod.fst) ps cm := by
          unfold comeV
          rw [List.map_cons, List.filter_cons, if_pos q]
        rw [this]
        simpa using j1
      · rw [if_neg q] at e1
        rw [e0 _ e1]
        obtain ⟨w4, w5, w6, w7, w8', h2, e2, j1, j2⟩ := ih acc h' i1 (by simp only [List.length_cons] at i2; omega) g (some (.str x.1)) (some (ruleD x.2)) v6 v7 w8
        refine ⟨w4, w5, w6, w7, w8', h2, e2, ?_, j2⟩
        have : comeV ((x :: bd).map Prod.fst) ps cm = comeV (bd.map Prod.fst) ps cm := by
          unfold comeV
          rw [List.map_cons, List.filter_cons, if_neg q]
        rw [this]
        exact j1
  obtain ⟨w4, w5, w6, w7, w8, h2, e2, j1, j2⟩ := key y.band [] (h ++ [.lst []]) (by simp) (by simp; omega) Gr.app none none none none none
  simp only [List.nil_append] at j1
  have e3 : comeV (y.band.map Prod.fst) ps cm = comeV (nsOf y) ps cm := rfl
  rw [e3] at j1
  generalize comeV (nsOf y) ps cm = cv at j1 ⊢
  simp only [f__law_due]
  simp only [Day.toD] at e2 ⊢
  clear key
  walk_at "dy*"
  have g : Gr h (h2.set h.length .dead) := ⟨by rw [List.length_set]; exact j2.1, fun i hi => by rw [List.getElem?_set_ne (by omega)]; exact j2.2 i hi⟩
  exact leave_rt g (belL_map (fun _ => rfl) _)
theorem s_unknown (hc : At T 5 c) {y : Day} {most : Nat} (hy : y.ok most) (hm : most ≤ 100) {ps : List (Str × Str)} (o : PairsOk y ps) {pd : D} (hp : IsRow pd (ps.map prS)) {cm : List Str} {cd : D} (hcm : IsRow cd (cm.map sD)) {x : Str} (hx : cm.find? (fun x => !decide (x ∈ nsOf y)) = some x) :
    c.call "_law_unknown" [y.toD, pd, cd] [] [] h = .ok (.str x) h := by
  obtain ⟨c', hc', e⟩ := hc.enter (vs := [y.toD, pd, cd]) (ks := []) (ws := []) fn__law_unknown rfl h
  rw [e]; clear e
  have e1 := s_next hasNext hc' (h := h) hy hm o hp hcm
  rw [hx] at e1
  have q1 : EC.noName.sub .noName = true := rfl
  have q2 : EC.noName.sub .keyError = true := rfl
  have q3 : EC.noName.sub .dayError = false := rfl
  have q4 : EC.noName.sub .valueError = false := rfl
  simp only [f__law_unknown]
  walk_at "dy*"
  exact leave_rt Gr.app rfl
theorem repr_strs {l : List Str} (h : ∀ x ∈ l, PyData.strOk x = true ∧ x.length ≤ 10) (hl : l.length ≤ 1000) : ((D.lst (l.map sD)).py && PyData.showable (D.lst (l.map sD)).toPy && sOk (PyData.shown (D.lst (l.map sD)).toPy)) = true ∧
    ((D.tup (l.map sD)).py && PyData.showable (D.tup (l.map sD)).toPy && sOk (PyData.shown (D.tup (l.map sD)).toPy)) = true := by
  have z := rszL_map (f := sD) (m := 104) (l := l) fun x hx => by have := (h x hx).2; show 10 * x.length + 2 + 2 ≤ 104; omega
  have k : D.rkL (l.map sD) = true := rkL_map fun x hx => (h x hx).1
  exact ⟨repr_if (pyL_map (fun _ => rfl) _) k (by simp only [D.rsz]; show _ ≤ 16777216; omega), repr_if (pyL_map (fun _ => rfl) _) k (by simp only [D.rsz]; show _ ≤ 16777216; omega)⟩
theorem repr_pairs {l : List (Str × Str)} (h : ∀ x ∈ l, (PyData.strOk x.1 = true ∧ x.1.length ≤ 10) ∧ PyData.strOk x.2 = true ∧ x.2.length ≤ 10) (hl : l.length ≤ 1000) : ((D.lst (l.map prS)).py && PyData.showable (D.lst (l.map prS)).toPy && sOk (PyData.shown (D.lst (l.map prS)).toPy)) = true := by
  have z := rszL_map (f := prS) (m := 300) (l := l) fun x hx => by have := (h x hx).1.2; have := (h x hx).2.2; simp only [prS, D.rsz, D.rszL]; omega
  have k : D.rkL (l.map prS) = true := rkL_map fun x hx => by simp only [prS, D.rk, D.rkL, Bool.and_true, Bool.and_eq_true]; exact ⟨(h x hx).1.1, (h x hx).2.1⟩
  exact repr_if (pyL_map (fun _ => rfl) _) k (by simp only [D.rsz]; show _ ≤ 16777216; omega)
theorem eqD_sameT {l : List D} (p : D.pyL l = true) : eqD h (.tup l) (.tup l) = some true := by
  show (if ((D.tup l).py && (D.tup l).py) = true then some (D.eqv (.tup l) (.tup l)) else none) = _
  have hp : (D.tup l).py = true := p
  rw [hp, eqv_refl (.tup l) 60 hp]; rfl
theorem find_odd {y : Day} {a b2 : List Str} {x : Str} {r : List Str} (h1 : ∀ z ∈ a, z ∈ nsOf y) (hx : x ∉ nsOf y) : (a ++ [x] ++ b2 ++ r).find? (fun x => !decide (x ∈ nsOf y)) = some x := by
  induction a with
  | nil => simp [hx]
  | cons z a ih =>
    have := h1 z List.mem_cons_self
    simp only [List.cons_append, List.find?_cons, this, decide_true, Bool.not_true]
    exact ih fun w hw => h1 w (List.mem_cons_of_mem _ hw)
theorem lost_ok {y : Day} {most : Nat} (hy : y.ok most) {n0 : Str} (hn : n0 ∈ nsOf y) : ∀ x ∈ [Str.ofString "A", Str.ofString "", n0 ++ Str.ofString "Z"], x ∉ nsOf y := by
  have ok : ∀ z ∈ nsOf y, nameOk z := hy.names.ok
  intro x hx hm
  have z := ok x hm
  simp only [List.mem_cons, List.not_mem_nil, or_false] at hx
  rcases hx with rfl | rfl | rfl
  · have := z.2.2 65 (by decide +kernel); omega
  · have := z.1
    have e : (Str.ofString "").cps.toList.length = 0 := by decide +kernel
    omega
  · have := z.2.2 90 (by rw [str_add]; exact List.mem_append_right _ (by decide +kernel)); omega
theorem rest_turn (hc : At T 6 c) (hb : isBox h b) {y : Day} (hy : y.ok 6) {ps : List (Str × Str)} (o : PairsOk y ps) (hpl : ps.length ≤ 100) {sm : List Str} (hsm : ∀ z ∈ sm, z ∈ nsOf y) (hsl : sm.length ≤ 6) {cd : D} (hcm : IsRow cd (sm.map sD)) (rc : (cd.py && PyData.showable cd.toPy && sOk (PyData.shown cd.toPy)) = true) {v0 v1 v4 v5 v9 v12 v13 v14 v15 v16 : Option D} :
    Nx (exec c b1_law.tl.tl none [v0, v1, some (.ref b), some y.toD, v4, v5, some (.lst ((nsOf y).map sD)), some (.lst (ps.map prS)), some (.str (PyData.shown (D.lst (ps.map prS)).toPy)), v9, some (.lst (sm.map sD)), some cd, v12, v13, v14, v15, v16] h) fun σ h' => ∃ w4 w12 w13 w14 w15 w16,
      σ = [v0, v1, some (.ref b), some y.toD, w4, v5, some (.lst ((nsOf y).map sD)), some (.lst (ps.map prS)), some (.str (PyData.shown (D.lst (ps.map prS)).toPy)), v9, some (.lst (sm.map sD)), some cd, w12, w13, w14, w15, w16] ∧ Bx b h h' := by
  have nOk : ∀ x ∈ nsOf y, nameOk x := hy.names.ok
  have hl := nsOf_len hy
  have e4 := s_due (hc.mono (by omega)) (h := h) hy (by omega) (pd := .lst (ps.map prS)) (.inl rfl) o.few hcm
  have fs : sm.find? (fun x => !decide (x ∈ nsOf y)) = none := by
    rw [List.find?_eq_none]
    intro x hx
    simp [hsm x hx]
  have e5 := s_next hasNext (hc.mono (by omega)) (h := h) hy (by omega) o (pd := .lst (ps.map prS)) (.inl rfl) hcm
  have e6 := s_next hasNext (hc.mono (by omega)) (h := h) hy (by omega) o (pd := .tup (ps.map prS)) (.inr rfl) (cm := sm) (cd := .tup (sm.map sD)) (.inr rfl)
  rw [fs] at e5 e6
  dsimp only at e5 e6
  have cOk : ∀ x ∈ comeV (nsOf y) ps sm, PyData.strOk x = true ∧ x.length ≤ 10 := fun x hx => by
    have := nOk x (List.mem_filter.mp hx).1
    exact ⟨this.rk, by have := this.len; omega⟩
  have cL : (comeV (nsOf y) ps sm).length ≤ 1000 := Nat.le_trans (List.length_filter_le _ _) (by omega)
  have rd := (repr_strs cOk cL).2
  have ed := eqD_sameT (h := h) (l := (comeV (nsOf y) ps sm).map sD) (pyL_map (fun _ => rfl) _)
  generalize comeV (nsOf y) ps sm = cv at e4 e5 e6 rd ed
  have rp : ((D.lst (ps.map prS)).py && PyData.showable (D.lst (ps.map prS)).toPy && sOk (PyData.shown (D.lst (ps.map prS)).toPy)) = true := repr_pairs (fun p hp => by
    have h1 := nOk _ (o.mem p hp).1
    have h2 := nOk _ (o.mem p hp).2
    exact ⟨⟨h1.rk, by have := h1.len; omega⟩, h2.rk, by have := h2.len; omega⟩) (by omega)
  obtain ⟨n0, rest, en⟩ : ∃ n0 rest, nsOf y = n0 :: rest := by
    cases q : nsOf y with
    | nil => have := hy.names.some; unfold nsOf at q; rw [q] at this; simp at this
    | cons a l => exact ⟨a, l, rfl⟩
  have m0 : n0 ∈ nsOf y := by rw [en]; exact List.mem_cons_self
  have f0 : (List.map sD (nsOf y))[0]? = some (.str n0) := by rw [en]; rfl
  clear en
  have k0 := nOk n0 m0
  have lk := lost_ok hy m0
  have zl : (Str.ofString "Z").length = 1 := by decide +kernel
  have u3 : n0.length + (Str.ofString "Z").length ≤ sizeL := by have := k0.len; show _ ≤ 16777216; omega
  have e7 := lc_filter (c := c) (t := .nm 4) (e := x2_law) (cd := x3_law) (σ := [v0, v1, some (.ref b), some y.toD, v4, v5, some (.lst ((nsOf y).map sD)), some (.lst (ps.map prS)), some (.str (PyData.shown (D.lst (ps.map prS)).toPy)), v9, some (.lst (sm.map sD)), some cd, some (.str (PyData.shown cd.toPy)), some (.tup (cv.map sD)), v14, v15, v16]) (h := h) sD sD (fun x => !decide (x ∈ nsOf y))
    [Str.ofString "zzzzzz", Str.ofString "A", Str.ofString "", n0 ++ Str.ofString "Z", Str.ofString "yyyyyy"] (by show 5 ≤ 16777216; omega) (fun a ha => by
      refine ⟨_, rfl, ?_, fun _ => ?_⟩
      · have := inL_str (h := h) (x := a) (l := nsOf y)
        simp only [x3_law]
        walk_at "dy*"
      · simp only [x2_law]
        walk_at "dy*")
  have fl3 : 2 ≤ (List.filter (fun x => !decide (x ∈ nsOf y)) [Str.ofString "zzzzzz", Str.ofString "A", Str.ofString "", n0 ++ Str.ofString "Z", Str.ofString "yyyyyy"]).length := by
    have a1 := lk _ (List.mem_cons_self)
    have a2 := lk _ (List.mem_cons_of_mem _ List.mem_cons_self)
    have sub : List.Sublist [Str.ofString "A", Str.ofString ""] [Str.ofString "zzzzzz", Str.ofString "A", Str.ofString "", n0 ++ Str.ofString "Z", Str.ofString "yyyyyy"] := by
      refine List.Sublist.cons _ (List.Sublist.cons₂ _ (List.Sublist.cons₂ _ (List.nil_sublist _)))
    have := (sub.filter fun x => !decide (x ∈ nsOf y)).length_le
    rw [List.filter_eq_self.mpr (fun x hx => by
      simp only [List.mem_cons, List.not_mem_nil, or_false] at hx
      rcases hx with rfl | rfl
      · simp [a1]
      · simp [a2])] at this
    exact this
  have fOk : ∀ x ∈ List.filter (fun x => !decide (x ∈ nsOf y)) [Str.ofString "zzzzzz", Str.ofString "A", Str.ofString "", n0 ++ Str.ofString "Z", Str.ofString "yyyyyy"], x ∉ nsOf y ∧ PyData.strOk x = true ∧ x.length ≤ 10 := fun x hx => by
    obtain ⟨hx, hf⟩ := List.mem_filter.mp hx
    refine ⟨by simpa using hf, ?_⟩
    simp only [List.mem_cons, List.not_mem_nil, or_false] at hx
    rcases hx with rfl | rfl | rfl | rfl | rfl
    · exact ⟨by decide +kernel, by decide +kernel⟩
    · exact ⟨by decide +kernel, by decide +kernel⟩
    · exact ⟨by decide +kernel, by decide +kernel⟩
    · refine ⟨strOk_iff.mpr fun x hx => ?_, ?_⟩
      · rw [str_add] at hx
        rcases List.mem_append.mp hx with hx | hx
        · have := k0.2.2 x hx; omega
        · have : ∀ x ∈ (Str.ofString "Z").cps.toList, x < 1114112 := by decide +kernel
          exact this x hx
      · have z := k0.len
        rw [str_len, str_add, List.length_append, ← str_len, ← str_len]; omega
    · exact ⟨by decide +kernel, by decide +kernel⟩
  have fl6 : (List.filter (fun x => !decide (x ∈ nsOf y)) [Str.ofString "zzzzzz", Str.ofString "A", Str.ofString "", n0 ++ Str.ofString "Z", Str.ofString "yyyyyy"]).length ≤ 5 := List.length_filter_le _ _
  generalize List.filter (fun x => !decide (x ∈ nsOf y)) _ = fl at e7 fl3 fOk fl6
  simp only [List.map_cons, List.map_nil] at e7
  obtain ⟨_, h4, e8, l', rfl, pm, g4⟩ := s_mixed hasTake (hc.mono (by omega)) hb (a := .lst (fl.map sD)) (l := fl.map sD) rfl (by rw [List.length_map]; omega) (belL_map (fun _ => rfl) _)
  obtain ⟨l1, rfl, pm1⟩ := perm_map_inv pm fl rfl
  obtain ⟨a1, a2, rs, el⟩ : ∃ a1 a2 rs, l1 = a1 :: a2 :: rs := by
    have := pm1.length_eq
    match l1, this with
    | [], z => simp at z; omega
    | [_], z => simp at z; omega
    | a1 :: a2 :: rs, _ => exact ⟨a1, a2, rs, rfl⟩
  have o1 := fOk a1 (pm1.subset (by rw [el]; exact List.mem_cons_self))
  have o2 := fOk a2 (pm1.subset (by rw [el]; exact List.mem_cons_of_mem _ List.mem_cons_self))
  have tk2 : List.take 2 (List.map sD l1) = [.str a1, .str a2] := by rw [el]; rfl
  clear el pm
  obtain ⟨_, h5, e9, u, rfl, u1, g5⟩ := s_takeN hasTake (hc.mono (by omega)) (h := h4) (n := ((sm.map sD).length : Nat) + 1) g4.2.2 (by omega) (by rw [List.length_map]; omega)
  have tk3 : List.take 1 [D.str a1, D.str a2] = [.str a1] := rfl
  have tk4 : List.drop 1 [D.str a1, D.str a2] = [.str a2] := rfl
  have tk5 : List.take u (List.map sD sm) = List.map sD (sm.take u) := List.map_take.symm
  have tk6 : List.drop u (List.map sD sm) = List.map sD (sm.drop u) := List.map_drop.symm
  have tk7 : List.map sD (sm.take u) ++ [D.str a1] ++ List.map sD (sm.drop u) ++ [D.str a2] = List.map sD (sm.take u ++ [a1] ++ sm.drop u ++ [a2]) := by simp
  have fo := find_odd (y := y) (a := sm.take u) (b2 := sm.drop u) (x := a1) (r := [a2]) (fun z hz => hsm z (List.mem_of_mem_take hz)) o1.1
  have lA : (List.map sD (sm.take u)).length ≤ 6 := by rw [List.length_map]; exact Nat.le_trans (List.length_take_le' _ _) (by omega)
  have lB : (List.map sD (sm.drop u)).length ≤ 6 := by rw [List.length_map, List.length_drop]; omega
  have c1 : (List.map sD (sm.take u)).length + 1 ≤ sizeL := by show _ ≤ 16777216; omega
  have c2 : (List.map sD (sm.take u)).length + 1 + (List.map sD (sm.drop u)).length ≤ sizeL := by show _ ≤ 16777216; omega
  have c3 : (List.map sD (sm.take u)).length + 1 + (List.map sD (sm.drop u)).length + 1 ≤ sizeL := by show _ ≤ 16777216; omega
  have ro := (repr_strs (l := sm.take u ++ [a1] ++ sm.drop u ++ [a2]) (fun x hx => by
    have nk : ∀ z ∈ sm, PyData.strOk z = true ∧ z.length ≤ 10 := fun z hz => by have := nOk z (hsm z hz); exact ⟨this.rk, by have := this.len; omega⟩
    simp only [List.mem_append, List.mem_cons, List.not_mem_nil, or_false] at hx
    rcases hx with ((hx | rfl) | hx) | rfl
    · exact nk x (List.mem_of_mem_take hx)
    · exact o1.2
    · exact nk x (List.mem_of_mem_drop hx)
    · exact o2.2) (by
      rw [List.length_map] at lA lB
      simp only [List.length_append, List.length_singleton]; omega)).1
  have e10 := s_unknown (hc.mono (by omega)) (h := h5) hy (by omega) o (pd := .lst (ps.map prS)) (.inl rfl) (cd := .lst ((sm.take u ++ [a1] ++ sm.drop u ++ [a2]).map sD)) (.inl rfl) fo
  have e11 := s_unknown (hc.mono (by omega)) (h := h5) hy (by omega) o (pd := .lst (ps.map prS)) (.inl rfl) (cd := .tup ((sm.take u ++ [a1] ++ sm.drop u ++ [a2]).map sD)) (.inr rfl) fo
  generalize (sm.take u ++ [a1] ++ sm.drop u ++ [a2]) = od at tk7 ro e10 e11
  clear zl fo lk fl3 fOk fl6 o1 o2 cOk nOk hsm lA lB fs m0 k0
  generalize y.toD = yd at *
  simp only [b1_law, St.tl]
  walk_at "dy*"
  exact .nx ⟨_, _, _, _, _, _, rfl, g4.trans g5⟩
theorem turn_one (hc : At T 6 c) (hb : isBox h b) {y : Day} (hy : y.ok 6) {ps : List (Str × Str)} (o : PairsOk y ps) (hpl : ps.length ≤ 100) {v0 v1 v4 v5 v9 v10 v11 v12 v13 v14 v15 v16 : Option D} :
    Nx (exec c b1_law none [v0, v1, some (.ref b), some y.toD, v4, v5, some (.lst ((nsOf y).map sD)), some (.lst (ps.map prS)), some (.str (PyData.shown (D.lst (ps.map prS)).toPy)), v9, v10, v11, v12, v13, v14, v15, v16] h) fun σ h' => ∃ w4 w10 w11 w12 w13 w14 w15 w16,
      σ = [v0, v1, some (.ref b), some y.toD, w4, v5, some (.lst ((nsOf y).map sD)), some (.lst (ps.map prS)), some (.str (PyData.shown (D.lst (ps.map prS)).toPy)), v9, w10, w11, w12, w13, w14, w15, w16] ∧ Bx b h h' := by
  have nOk : ∀ x ∈ nsOf y, nameOk x := hy.names.ok
  have hl := nsOf_len hy
  obtain ⟨_, h1, e1, l', rfl, pm, g1⟩ := s_mixed hasTake (hc.mono (by omega)) hb (a := .lst ((nsOf y).map sD)) (l := (nsOf y).map sD) rfl (by rw [List.length_map]; omega) (belL_map (fun _ => rfl) _)
  obtain ⟨l0, rfl, pm0⟩ := perm_map_inv pm (nsOf y) rfl
  obtain ⟨_, h2, e2, t, rfl, t1, g2⟩ := s_takeN hasTake (hc.mono (by omega)) (n := (((nsOf y).map sD).length : Nat) + 1) g1.2.2 (by omega) (by rw [List.length_map]; omega)
  obtain ⟨_, h3, e3, d, rfl, d1, g3⟩ := s_takeN hasTake (hc.mono (by omega)) (n := 2) g2.2.2 (by omega) (by omega)
  have tk1 : List.take t (List.map sD l0) = List.map sD (l0.take t) := List.map_take.symm
  have hsm : ∀ z ∈ l0.take t, z ∈ nsOf y := fun z hz => pm0.subset (List.mem_of_mem_take hz)
  have hsl : (l0.take t).length ≤ 6 := by have := pm0.length_eq; exact Nat.le_trans (List.length_take_le' _ _) (by omega)
  generalize l0.take t = sm at tk1 hsm hsl
  have rr := repr_strs (l := sm) (fun z hz => by have := nOk z (hsm z hz); exact ⟨this.rk, by have := this.len; omega⟩) (by omega)
  have R1 := rest_turn hc (h := h3) g3.2.2 hy o hpl hsm hsl (cd := .lst (sm.map sD)) (.inl rfl) rr.1 (v0 := v0) (v1 := v1) (v4 := v4) (v5 := v5) (v9 := v9) (v12 := v12) (v13 := v13) (v14 := v14) (v15 := v15) (v16 := v16)
  have R2 := rest_turn hc (h := h3) g3.2.2 hy o hpl hsm hsl (cd := .tup (sm.map sD)) (.inr rfl) rr.2 (v0 := v0) (v1 := v1) (v4 := v4) (v5 := v5) (v9 := v9) (v12 := v12) (v13 := v13) (v14 := v14) (v15 := v15) (v16 := v16)
  clear rr hsm pm
  have eb : b1_law = .cons b1_law.hd (.cons b1_law.tl.hd b1_law.tl.tl) := rfl
  rw [eb]
  generalize b1_law.tl.tl = K at R1 R2 ⊢
  simp only [b1_law, St.hd, St.tl]
  by_cases q : (d : Int) = 0
  · obtain ⟨σ', h', e4, w4, w12, w13, w14, w15, w16, rfl, g4⟩ := R1
    clear R2
    have : Nx (exec c K none [v0, v1, some (.ref b), some y.toD, v4, v5, some (.lst ((nsOf y).map sD)), some (.lst (ps.map prS)), some (.str (PyData.shown (D.lst (ps.map prS)).toPy)), v9, some (.lst (sm.map sD)), some (.lst (sm.map sD)), v12, v13, v14, v15, v16] h3) fun σ h' => ∃ w4 w10 w11 w12 w13 w14 w15 w16,
      σ = [v0, v1, some (.ref b), some y.toD, w4, v5, some (.lst ((nsOf y).map sD)), some (.lst (ps.map prS)), some (.str (PyData.shown (D.lst (ps.map prS)).toPy)), v9, w10, w11, w12, w13, w14, w15, w16] ∧ Bx b h h' := ⟨_, h', e4, _, _, _, _, _, _, _, _, rfl, g1.trans (g2.trans (g3.trans g4))⟩
    clear e4
    walk_at "dy*"
  · obtain ⟨σ', h', e4, w4, w12, w13, w14, w15, w16, rfl, g4⟩ := R2
    clear R1
    have : Nx (exec c K none [v0, v1, some (.ref b), some y.toD, v4, v5, some (.lst ((nsOf y).map sD)), some (.lst (ps.map prS)), some (.str (PyData.shown (D.lst (ps.map prS)).toPy)), v9, some (.lst (sm.map sD)), some (.tup (sm.map sD)), v12, v13, v14, v15, v16] h3) fun σ h' => ∃ w4 w10 w11 w12 w13 w14 w15 w16,
      σ = [v0, v1, some (.ref b), some y.toD, w4, v5, some (.lst ((nsOf y).map sD)), some (.lst (ps.map prS)), some (.str (PyData.shown (D.lst (ps.map prS)).toPy)), v9, w10, w11, w12, w13, w14, w15, w16] ∧ Bx b h h' := ⟨_, h', e4, _, _, _, _, _, _, _, _, rfl, g1.trans (g2.trans (g3.trans g4))⟩
    clear e4
    walk_at "dy*"
theorem cell_turn (hc : At T 7 c) {ns : List Int} {k : Nat} (hk : k < 1000) {v2 v3 v4 v5 v6 v7 v8 v9 v10 v11 v12 v13 v14 v15 v16 : Option D} :
    Nx (exec c b2_law none [some (.scr ns), some (.int k), v2, v3, v4, v5, v6, v7, v8, v9, v10, v11, v12, v13, v14, v15, v16] h) fun σ h' => ∃ w2 w3 w4 w5 w6 w7 w8 w9 w10 w11 w12 w13 w14 w15 w16 : Option D, σ = [some (.scr ns), some (.int k), w2, w3, w4, w5, w6, w7, w8, w9, w10, w11, w12, w13, w14, w15, w16] := by
  obtain ⟨_, h1, e1, rfl, q1, b1, l1⟩ := s_box fn__law_box (hc.mono (by omega)) (ns := ns) (h := h) hk
  obtain ⟨_, h2, e2, i, rfl, i1, g2⟩ := s_takeN hasTake (hc.mono (by omega)) (n := 3) b1 (by omega) (by omega)
  obtain ⟨m, em, hm1, hm2⟩ : ∃ m : Nat, [D.int 6, D.int 5, D.int 4][i]? = some (.int m) ∧ 0 < m ∧ m ≤ 6 := by
    match i, i1 with
    | 0, _ => exact ⟨6, rfl, by omega, by omega⟩
    | 1, _ => exact ⟨5, rfl, by omega, by omega⟩
    | 2, _ => exact ⟨4, rfl, by omega, by omega⟩
    | n + 3, z => omega
  obtain ⟨_, h3, e3, y, rfl, hy', g3⟩ := s_day hasDay (hc.mono (by omega)) (most := m) g2.2.2 hm1 (by omega)
  have hy : y.ok 6 := ⟨hy'.t0, hy'.t1, hy'.p0, hy'.p1, hy'.start, ⟨hy'.names.nodup, hy'.names.ok, hy'.names.some, Nat.le_trans hy'.names.most hm2⟩, hy'.rules⟩
  obtain ⟨_, h4, e4, j, rfl, j1, g4⟩ := s_takeN hasTake (hc.mono (by omega)) (n := 3) g3.2.2 (by omega) (by omega)
  obtain ⟨w, ew, hw⟩ : ∃ w : Nat, [D.int 2, D.int 10, D.int 40][j]? = some (.int w) ∧ w ≤ 40 := by
    match j, j1 with
    | 0, _ => exact ⟨2, rfl, by omega⟩
    | 1, _ => exact ⟨10, rfl, by omega⟩
    | 2, _ => exact ⟨40, rfl, by omega⟩
    | n + 3, z => omega
  obtain ⟨_, h5, e5, ps, rfl, o, pl, g5⟩ := s_lpairs hasLPairs (hc.mono (by omega)) (h := h4) g4.2.2 hy (by omega) (m := w) (by omega)
  have hl : y.band.length ≤ 6 := by have := hy.names.most; rw [List.length_map] at this; exact this
  have nOk : ∀ x ∈ nsOf y, nameOk x := hy.names.ok
  have e6 : compL (lcF c (.tp (.cons (.nm 4) (.cons (.nm 5) .nil))) x1_law (.kb true) [some (.scr ns), some (.int k), some (.ref h.length), some y.toD, v4, v5, v6, v7, v8, v9, v10, v11, v12, v13, v14, v15, v16]) (y.band.map hingeD) [] h3 = .ok ((nsOf y).map sD) h3 := by
    unfold nsOf
    rw [List.map_map]
    refine lc_map hingeD nmD y.band (by show _ ≤ 16777216; omega) (fun x hx => ?_)
    refine ⟨[some (.scr ns), some (.int k), some (.ref h.length), some y.toD, some (.str x.1), some (ruleD x.2), v6, v7, v8, v9, v10, v11, v12, v13, v14, v15, v16], rfl, ?_⟩
    simp only [x1_law]
    walk_at "dy*"
  have rp : ((D.lst (ps.map prS)).py && PyData.showable (D.lst (ps.map prS)).toPy && sOk (PyData.shown (D.lst (ps.map prS)).toPy)) = true := repr_pairs (fun p hp => by
    have h1 := nOk _ (o.mem p hp).1
    have h2 := nOk _ (o.mem p hp).2
    exact ⟨⟨h1.rk, by have := h1.len; omega⟩, h2.rk, by have := h2.len; omega⟩) (by omega)
  obtain ⟨σ6, h6, e7, u4, u9, u10, u11, u12, u13, u14, u15, u16, rfl, g6⟩ := for_nm (k := 9) (b := exec c b1_law none) (l := rangeL 0 6) (h := h5) (σ := [some (.scr ns), some (.int k), some (.ref h.length), some y.toD, v4, v5, some (.lst ((nsOf y).map sD)), some (.lst (ps.map prS)), some (.str (PyData.shown (D.lst (ps.map prS)).toPy)), v9, v10, v11, v12, v13, v14, v15, v16])
    (fun _ σ h' => ∃ u4 u9 u10 u11 u12 u13 u14 u15 u16, σ = [some (.scr ns), some (.int k), some (.ref h.length), some y.toD, u4, v5, some (.lst ((nsOf y).map sD)), some (.lst (ps.map prS)), some (.str (PyData.shown (D.lst (ps.map prS)).toPy)), u9, u10, u11, u12, u13, u14, u15, u16] ∧ Bx h.length h5 h')
    ⟨_, _, _, _, _, _, _, _, _, rfl, Bx.refl g5.2.2⟩ (by
      rintro i d σ h' hi ⟨u4, u9, u10, u11, u12, u13, u14, u15, u16, rfl, g⟩
      obtain ⟨rfl, hi⟩ := rangeL_get0 hi
      obtain ⟨σ2, h2, e2, w4, w10, w11, w12, w13, w14, w15, w16, rfl, g2⟩ := turn_one (h := h') (hc.mono (by omega)) g.2.2 hy o (by omega) (v0 := some (.scr ns)) (v1 := some (.int k)) (v4 := u4) (v5 := v5) (v9 := some (.int i)) (v10 := u10) (v11 := u11) (v12 := u12) (v13 := u13) (v14 := u14) (v15 := u15) (v16 := u16)
      exact ⟨_, h2, e2, _, _, _, _, _, _, _, _, _, rfl, g.trans g2⟩)
  simp only [b2_law]
  simp only [Day.toD] at e3 e5 e6 e7 ⊢
  walk_at "dy*"
  exact .nx ⟨_, _, _, _, _, _, _, _, _, _, _, _, _, _, _, rfl⟩
theorem law_true (ns : List Int) (h : ns.length ≤ 63) : ∃ h', run T (29 + 1) (Str.ofString "law") [.scr ns] [] [] [] = .ok (.bl true) h' := by
  have hc : At T 30 (cl T 30) := ⟨30, Nat.le_refl _, rfl⟩
  obtain ⟨c', hc', e⟩ := hc.enter (vs := [.scr ns]) (ks := []) (ws := []) fn_law rfl []
  have e0 : run T (29 + 1) (Str.ofString "law") [.scr ns] [] [] [] = (cl T 30).call "law" [.scr ns] [] [] [] := rfl
  rw [e0, e]; clear e e0
  simp only [f_law]
  obtain ⟨m, em, hm⟩ : ∃ m : Nat, (if (2 : Int) < (if (ns.length : Int) < 6 then (ns.length : Int) else 6) then (if (ns.length : Int) < 6 then (ns.length : Int) else 6) else 2) = (m : Int) ∧ m ≤ 6 := by
    by_cases q : (ns.length : Int) < 6
    · by_cases q2 : (2 : Int) < ns.length
      · exact ⟨ns.length, by rw [if_pos q, if_pos q2], by omega⟩
      · exact ⟨2, by rw [if_pos q, if_neg q2]; rfl, by omega⟩
    · exact ⟨6, by rw [if_neg q]; rfl, by omega⟩
  have hmi : (m : Int) ≤ 1000000 := by omega
  obtain ⟨σ', h2, e2, w1, w2, w3, w4, w5, w6, w7, w8, w9, w10, w11, w12, w13, w14, w15, w16, rfl⟩ := for_nm (k := 1) (b := exec c' b2_law none) (l := rangeL 0 m) (h := []) (σ := [some (.scr ns), none, none, none, none, none, none, none, none, none, none, none, none, none, none, none, none])
    (fun i σ h' => ∃ w1 w2 w3 w4 w5 w6 w7 w8 w9 w10 w11 w12 w13 w14 w15 w16 : Option D, σ = [some (.scr ns), w1, w2, w3, w4, w5, w6, w7, w8, w9, w10, w11, w12, w13, w14, w15, w16]) ⟨_, _, _, _, _, _, _, _, _, _, _, _, _, _, _, _, rfl⟩ (by
      rintro i d σ h' hi ⟨w1, w2, w3, w4, w5, w6, w7, w8, w9, w10, w11, w12, w13, w14, w15, w16, rfl⟩
      obtain ⟨rfl, hi⟩ := rangeL_get0 hi
      obtain ⟨σ2, h2, e2, w2, w3, w4, w5, w6, w7, w8, w9, w10, w11, w12, w13, w14, w15, w16, rfl⟩ := cell_turn (c := c') (h := h') (hc'.mono (by omega)) (ns := ns) (k := i) (by omega) (v2 := w2) (v3 := w3) (v4 := w4) (v5 := w5) (v6 := w6) (v7 := w7) (v8 := w8) (v9 := w9) (v10 := w10) (v11 := w11) (v12 := w12) (v13 := w13) (v14 := w14) (v15 := w15) (v16 := w16)
      exact ⟨_, h2, e2, _, _, _, _, _, _, _, _, _, _, _, _, _, _, _, _, rfl⟩)
  walk_at "dy*"
  simp only [leave]
  split
  · exact ⟨_, rfl⟩
  · exact ⟨_, rfl⟩
end Dy
end

set_option maxRecDepth 100000
set_option maxHeartbeats 0
set_option Elab.async false
open PySem PySem.W PySem.Calls PyProof.Rows
theorem PySem.Challenge.cw_dayhinges_k19_who_may_come_next_holds : PySem.Challenge.rw_dayhinges_k19_who_may_come_next.Holds := by
  w_on; o_law
  refine HandSHeadRun.head_any (r := OpenLaw.row PySem.Challenge.rw_dayhinges_k19_who_may_come_next) (q := view (OpenLaw.row PySem.Challenge.rw_dayhinges_k19_who_may_come_next).prog [26]) (H := Dy.hk) (ob := Dy.ob) (M := 4000) (loose := Dy.lo) (d := HandSHeadRun.topDef (OpenLaw.row PySem.Challenge.rw_dayhinges_k19_who_may_come_next).prog 26) (kwd := []) Dy.ob_eq
    (by kernel_rfl) (fun s => by kernel_rfl) Dy.topRun (by kernel_rfl) (by kernel_rfl) (by kernel_rfl) (by rfl) (by first | assumption | decide +kernel) (by decide +kernel) ⟨rfl, rfl, rfl, rfl, rfl, by decide +kernel⟩ ?hw ?hc
  case hw => w_witness2
  case hc =>
    refine Dy.dy_end (l := PySem.Challenge.rw_dayhinges_k19_who_may_come_next) Dy.T 29 rfl (by kernel_rfl) (by kernel_rfl) ⟨rfl, by decide, by decide⟩ ?F Dy.law_true
    intro w mg fa h Y G hmg0
    obtain ⟨K, KX, c⟩ := Y
    exact Dy.law_at G KX c


