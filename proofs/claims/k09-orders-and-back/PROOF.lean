import PyProof.Rows.All
import Wide.All
import OpenK.AllK
import Wide.FinOn
import HandS.Base
import HandS.Call
import HandS.List
import HandS.Comp
import HandS.Ends
import HandS.Dict
import HandS.Iter
import HandS.Text
import HandS.Exc
import HandS.Words
import HandS.Wide
import HandS.Flow
import HandS.Conv
import HandS.TupAny
import HandS.StrMore
import HandS.IsInst
import HandS.Codes
import HandS.Replace
import HandS.ExcIs
import HandS.ExcField
import KE.KExcIs
import HandS.ExcOwn
import HandS.ExcInit
import HandS.ExcInitHot
import HandS.ExcCtx
import HandS.HotCalls
import HandS.CallSlots
import HandS.Defaults
import HandS.Style
import HandS.HeadHook1
import HandS.HeadHook2
import HandS.HeadHook3
import HandS.HeadHook4
import KE.KStateDown
import HandS.Head0
import HandS.Head1
import HandS.Head2
import HandS.HeadEnd
import HandS.EndBits
import PySem.Challenge.RW_notbehind_k09_orders_and_back
/-! Ev: a small semantics of the Python that the laws use: values D, a store of lists and dicts, a monad M (a value | an exception | bad), one combinator for each construct, and the rules of Wp. Core Lean alone. -/
set_option Elab.async false
set_option linter.all false
namespace NB

/-- values; loc n: the object at place n of the store; exc: an exception held by a name; kl: a list that nobody writes (the script, a list of the module) -/
inductive D where
  | non | bl (b : Bool) | int (i : Int) | str (s : List Nat) | tup (xs : List D) | loc (n : Nat) | exc (c : Nat) (fs : List D) | kl (xs : List D)
  deriving Inhabited
/-- what stands in the store: a list (w: it may be written), a dict, an instance -/
inductive Ob where
  | lst (w : Bool) (xs : List D)
  | dic (kvs : List (D × D))
  | ins (c : Nat) (fs : List (Nat × D))
  deriving Inhabited
abbrev Store := List Ob
inductive Res (α : Type) where
  | ok (a : α) (S : Store) | exc (c : Nat) (fs : List D) (S : Store) | bad
abbrev M (α : Type) : Type := Store → Res α
def ret {α : Type} (a : α) : M α := fun S => .ok a S
def err {α : Type} : M α := fun _ => .bad
def thr {α : Type} (c : Nat) (fs : List D) : M α := fun S => .exc c fs S
def bnd {α β : Type} (m : M α) (k : α → M β) : M β := fun S => match m S with
  | .ok a S' => k a S'
  | .exc c f S' => .exc c f S'
  | .bad => .bad
/-- what is wanted of the end: of a value, of an exception -/
def Wp {α : Type} (m : M α) (S : Store) (Q : α → Store → Prop) (E : Nat → List D → Store → Prop) : Prop := match m S with
  | .ok a S' => Q a S'
  | .exc c f S' => E c f S'
  | .bad => False
section
variable {α β : Type} {m : M α} {S : Store} {Q Q' : α → Store → Prop} {E E' : Nat → List D → Store → Prop}
theorem wp_ret {a : α} : Wp (ret a) S Q E = Q a S := rfl
theorem wp_err : Wp (err : M α) S Q E = False := rfl
theorem wp_thr {c : Nat} {fs : List D} : Wp (thr c fs : M α) S Q E = E c fs S := rfl
theorem wp_bnd {k : α → M β} {R : β → Store → Prop} : Wp (bnd m k) S R E = Wp m S (fun a S' => Wp (k a) S' R E) E := by
  unfold Wp bnd
  cases m S <;> rfl
theorem wp_mono (h : Wp m S Q E) (hq : ∀ a S, Q a S → Q' a S) (he : ∀ c f S, E c f S → E' c f S) : Wp m S Q' E' := by
  unfold Wp at h ⊢
  cases q : m S with
  | ok a S' => rw [q] at h; exact hq a S' h
  | exc c f S' => rw [q] at h; exact he c f S' h
  | bad => rw [q] at h; exact h
theorem wp_of_ok {a : α} {S' : Store} (h : m S = .ok a S') (q : Q a S') : Wp m S Q E := by
  unfold Wp; rw [h]; exact q
theorem wp_of_exc {c : Nat} {f : List D} {S' : Store} (h : m S = .exc c f S') (q : E c f S') : Wp m S Q E := by
  unfold Wp; rw [h]; exact q
theorem bnd_ret {a : α} {k : α → M β} : bnd (ret a) k = k a := rfl
theorem bnd_err {k : α → M β} : bnd (err : M α) k = err := rfl
theorem bnd_assoc {γ : Type} {k : α → M β} {l : β → M γ} : bnd (bnd m k) l = bnd m fun a => bnd (k a) l := by
  funext S
  unfold bnd
  cases m S <;> rfl
end

/-! ### names by places -/
abbrev Env := List (Option D)
abbrev EE := Env → M D
abbrev TT := Env → M Bool
abbrev AA := Env → M (List D)
/-- a statement's end -/
inductive Fl where
  | nx (e : Env) | bk (e : Env) | ct (e : Env) | rt (d : D)
abbrev SS := Env → M Fl
def isExc : D → Bool
  | .exc _ _ => true
  | _ => false
def noExc (xs : List D) : Bool := xs.all fun d => !isExc d
def chk (d : D) : M D := bif isExc d then err else ret d
/-- the longest list, tuple, text -/
def SZ : Nat := 16777216

/-! ### the store -/
def new (o : Ob) : M D := fun S => .ok (.loc S.length) (S ++ [o])
def newL (xs : List D) : M D := bif noExc xs && decide (xs.length ≤ SZ) then new (.lst true xs) else err
def mkTup (xs : List D) : M D := bif noExc xs && decide (xs.length ≤ SZ) then ret (.tup xs) else err
/-- the list at n -/
def listAt (n : Nat) : M (List D) := fun S => match S[n]? with
  | some (.lst _ xs) => .ok xs S
  | _ => .bad
/-- the list at n, one that may be written -/
def listW (n : Nat) : M (List D) := fun S => match S[n]? with
  | some (.lst true xs) => .ok xs S
  | _ => .bad
/-- the list at n is written -/
def putL (n : Nat) (ys : List D) : M Unit := fun S => match S[n]? with
  | some (.lst true _) => bif noExc ys && decide (ys.length ≤ SZ) then .ok () (S.set n (.lst true ys)) else .bad
  | _ => .bad

/-! ### operators on values -/
def mulOk (i j : Int) : Bool := decide (i.natAbs < 2 ^ 64) || decide (j.natAbs < 2 ^ 64) || decide (i.natAbs.log2 + j.natAbs.log2 < 1000000)
def divOk (i j : Int) : Bool := decide (0 < j) && (decide (j.natAbs.log2 < 9000) || decide (i.natAbs.log2 / 30 ≤ j.natAbs.log2 / 30 + 150))
def addD : D → D → M D
  | .int i, .int j => ret (.int (i + j))
  | .str a, .str b => bif decide (a.length + b.length ≤ SZ) then ret (.str (a ++ b)) else err
  | .tup a, .tup b => bif decide (a.length + b.length ≤ SZ) then ret (.tup (a ++ b)) else err
  | .loc a, .loc b => bnd (listW a) fun xs => bnd (listW b) fun ys => newL (xs ++ ys)
  | _, _ => err
def subD : D → D → M D
  | .int i, .int j => ret (.int (i - j))
  | _, _ => err
def repL (xs : List D) (k : Nat) : List D := (List.replicate k xs).flatten
def mulD : D → D → M D
  | .int i, .int j => bif mulOk i j then ret (.int (i * j)) else err
  | .str a, .int j => bif decide (-(2 ^ 63) ≤ j) && decide (j < 2 ^ 63) && decide (a.length * j.toNat ≤ SZ) then ret (.str (List.replicate j.toNat a).flatten) else err
  | .loc a, .int j => bif decide (-(2 ^ 63) ≤ j) && decide (j < 2 ^ 63) then bnd (listW a) fun xs => bif decide (xs.length * j.toNat ≤ SZ) then newL (repL xs j.toNat) else err else err
  | _, _ => err
def fdivD : D → D → M D
  | .int i, .int j => bif divOk i j then ret (.int (i / j)) else err
  | _, _ => err
def modD : D → D → M D
  | .int i, .int j => bif decide (0 < j) then ret (.int (i % j)) else err
  | _, _ => err
def powD : D → D → M D
  | .int i, .int j => bif decide (0 ≤ j) && decide (j ≤ 1000000) && decide (i.natAbs < 2 ^ 64) then ret (.int (i ^ j.toNat)) else err
  | _, _ => err
def negD : D → M D
  | .int i => ret (.int (-i))
  | _ => err
/-- == of plain values -/
def eqP : D → D → Option Bool
  | .non, .non => some true
  | .non, .int _ => some false | .int _, .non => some false
  | .non, .bl _ => some false | .bl _, .non => some false
  | .non, .str _ => some false | .str _, .non => some false
  | .int i, .int j => some (decide (i = j))
  | .bl i, .bl j => some (decide (i = j))
  | .str i, .str j => some (decide (i = j))
  | .int _, .str _ => some false | .str _, .int _ => some false
  | .bl _, .str _ => some false | .str _, .bl _ => some false
  | _, _ => none
def eqD (x y : D) : M D := match eqP x y with
  | some b => ret (.bl b)
  | none => err
def neD (x y : D) : M D := match eqP x y with
  | some b => ret (.bl (!b))
  | none => err
def ltD : D → D → M D
  | .int i, .int j => ret (.bl (decide (i < j)))
  | _, _ => err
def leD : D → D → M D
  | .int i, .int j => ret (.bl (decide (i ≤ j)))
  | _, _ => err
def gtD : D → D → M D
  | .int i, .int j => ret (.bl (decide (j < i)))
  | _, _ => err
def geD : D → D → M D
  | .int i, .int j => ret (.bl (decide (j ≤ i)))
  | _, _ => err
/-- does xs stand in ys -/
def infixB (xs : List Nat) : List Nat → Bool
  | [] => xs.isEmpty
  | y :: ys => xs.isPrefixOf (y :: ys) || infixB xs ys
/-- == of flat values -/
def flatD : D → Bool
  | .non => true
  | .bl _ => true
  | .int _ => true
  | .str _ => true
  | _ => false
def eqF : D → D → Bool
  | .non, .non => true
  | .bl a, .bl b => a == b
  | .bl a, .int b => (if a then 1 else 0) == b
  | .int a, .bl b => a == (if b then 1 else 0)
  | .int a, .int b => a == b
  | .str a, .str b => a == b
  | _, _ => false
/-- is it one of them -/
def inL (x : D) (ys : List D) : Option Bool := bif flatD x && ys.all flatD then some (ys.any fun y => eqF y x) else none
def seqOf : D → M (List D)
  | .tup xs => ret xs
  | .loc n => listAt n
  | _ => err
def inB (x c : D) : M Bool := match x, c with
  | .str a, .str b => ret (infixB a b)
  | x, c => bnd (seqOf c) fun xs => match inL x xs with
    | some b => ret b
    | none => err
def inD (x c : D) : M D := bnd (inB x c) fun b => ret (.bl b)
def ninD (x c : D) : M D := bnd (inB x c) fun b => ret (.bl (!b))
def isNonD (x : D) : M D := match x with
  | .non => ret (.bl true)
  | .exc _ _ => err
  | _ => ret (.bl false)
def notNonD (x : D) : M D := match x with
  | .non => ret (.bl false)
  | .exc _ _ => err
  | _ => ret (.bl true)
/-- x is y, y None -/
def isD (x y : D) : M D := match y with
  | .non => isNonD x
  | _ => err
def isntD (x y : D) : M D := match y with
  | .non => notNonD x
  | _ => err
def truth : D → M Bool
  | .non => ret false
  | .bl b => ret b
  | .int i => ret (i != 0)
  | .str s => ret (!s.isEmpty)
  | .tup xs => ret (!xs.isEmpty)
  | .loc n => fun S => match S[n]? with
    | some (.lst _ xs) => .ok (!xs.isEmpty) S
    | some (.dic kvs) => .ok (!kvs.isEmpty) S
    | _ => .bad
  | .kl _ => err
  | .exc _ _ => err

/-! ### subscripts and slices -/
/-- the place that an index names -/
def ixOf (i : Int) (n : Nat) : Option Nat := if 0 ≤ i then (if i < n then some i.toNat else none) else if -(n : Int) ≤ i then some (i + n).toNat else none
def atL {α : Type} (xs : List α) (i : Int) : M α := match ixOf i xs.length with
  | some k => (match xs[k]? with
    | some d => ret d
    | none => err)
  | none => err
def subsD : D → D → M D
  | .str s, .int i => bnd (atL s i) fun c => ret (.str [c])
  | .tup xs, .int i => atL xs i
  | .kl xs, .int i => atL xs i
  | .loc n, .int i => bnd (listAt n) fun xs => atL xs i
  | _, _ => err
def cutAt (n d : Nat) : Option Int → Nat
  | none => d
  | some v => if v < 0 then (v + (n : Int)).toNat else min v.toNat n
def optI : Option D → Option (Option Int)
  | none => some none
  | some (.int i) => some (some i)
  | _ => none
def cutL {α : Type} (xs : List α) (lo hi : Option Int) : List α := (xs.drop (cutAt xs.length 0 lo)).take (cutAt xs.length xs.length hi - cutAt xs.length 0 lo)
def sliceD (o : D) (lo hi : Option D) : M D := match optI lo, optI hi with
  | some lo, some hi => (match o with
    | .str s => ret (.str (cutL s lo hi))
    | .tup xs => ret (.tup (cutL xs lo hi))
    | .loc n => bnd (listAt n) fun xs => newL (cutL xs lo hi)
    | _ => err)
  | _, _ => err
/-- a bound of a slice -/
def chkI : D → M D
  | .int i => ret (.int i)
  | _ => err
/-- xs[::-1] -/
def backD : D → M D
  | .str s => ret (.str s.reverse)
  | .loc n => bnd (listAt n) fun xs => newL xs.reverse
  | _ => err
def setItemD (o i v : D) : M Unit := match o, i with
  | .loc n, .int i => bnd (listW n) fun xs => (match ixOf i xs.length with
    | some k => putL n (xs.set k v)
    | none => err)
  | _, _ => err

/-! ### built-ins -/
def lenD : D → M D
  | .str s => ret (.int s.length)
  | .tup xs => ret (.int xs.length)
  | .kl xs => ret (.int xs.length)
  | .loc n => fun S => match S[n]? with
    | some (.lst _ xs) => .ok (.int xs.length) S
    | some (.dic kvs) => .ok (.int kvs.length) S
    | _ => .bad
  | _ => err
def absD : D → M D
  | .int i => ret (.int (if i < 0 then -i else i))
  | _ => err
/-- the digits of a number -/
def digitsOf (n : Nat) : List Nat := (Nat.toDigits 10 n).map Char.toNat
def textOf (i : Int) : List Nat := if i < 0 then 45 :: digitsOf i.natAbs else digitsOf i.natAbs
/-- the value of a text of digits -/
def dgV (s : List Nat) : Nat := s.foldl (fun acc c => acc * 10 + (c - 48)) 0
def isDg (s : List Nat) : Bool := s.all fun c => decide (48 ≤ c) && decide (c ≤ 57)
def intD : D → M D
  | .int i => ret (.int i)
  | .bl b => ret (.int (if b then 1 else 0))
  | .str s => bif isDg s && decide (0 < s.length) && decide (s.length ≤ 640) then ret (.int (dgV s)) else err
  | _ => err
def strD : D → M D
  | .int i => bif decide (i.natAbs.log2 < 1920) then ret (.str (textOf i)) else err
  | _ => err
def listD (d : D) : M D := bnd (seqOf d) newL
def tupleD (d : D) : M D := bnd (seqOf d) mkTup
def maxD : List D → M D
  | [.int i, .int j] => ret (.int (if j > i then j else i))
  | _ => err
def minD : List D → M D
  | [.int i, .int j] => ret (.int (if j < i then j else i))
  | _ => err
def one (o : D → M D) : List D → M D
  | [x] => o x
  | _ => err
/-! ### methods -/
def appendD (o v : D) : M D := match o with
  | .loc n => bnd (listW n) fun xs => bnd (putL n (xs ++ [v])) fun _ => ret .non
  | _ => err
def reverseD (o : D) : M D := match o with
  | .loc n => bnd (listW n) fun xs => bnd (putL n xs.reverse) fun _ => ret .non
  | _ => err
def extendD (o v : D) : M D := match o, v with
  | .loc n, .loc k => bnd (listW n) fun xs => bnd (listW k) fun ys => bnd (putL n (xs ++ ys)) fun _ => ret .non
  | _, _ => err
def popAtD (o i : D) : M D := match o, i with
  | .loc n, .int i => bnd (listW n) fun xs => (match ixOf i xs.length with
    | some k => (match xs[k]? with
      | some d => bnd (putL n (xs.eraseIdx k)) fun _ => ret d
      | none => err)
    | none => err)
  | _, _ => err
def strsOf : List D → Option (List (List Nat))
  | [] => some []
  | .str s :: r => (match strsOf r with
    | some t => some (s :: t)
    | none => none)
  | _ :: _ => none
def joinL (sep : List Nat) : List (List Nat) → List Nat
  | [] => []
  | [x] => x
  | x :: y :: r => x ++ (sep ++ joinL sep (y :: r))
def joinD (sep o : D) : M D := match sep with
  | .str sep => bnd (seqOf o) fun xs => (match strsOf xs with
    | some ts => bif decide (((ts.map List.length).sum + ts.length * sep.length) ≤ SZ) then ret (.str (joinL sep ts)) else err
    | none => err)
  | _ => err
/-- cut at each sign c: the parts -/
def splitC (c : Nat) : List Nat → List (List Nat)
  | [] => [[]]
  | x :: r => if x = c then [] :: splitC c r else match splitC c r with
    | [] => [[x]]
    | p :: ps => (x :: p) :: ps
def splitD (o sep : D) : M D := match o, sep with
  | .str s, .str [c] => bif decide (s.length + 2 ≤ SZ) && decide (c < 256) then newL ((splitC c s).map .str) else err
  | _, _ => err
def idxC (c : Nat) : List Nat → Option Nat
  | [] => none
  | x :: r => if x = c then some 0 else (idxC c r).map (· + 1)
def indexD (o v : D) : M D := match o, v with
  | .str s, .str [c] => (match idxC c s with
    | some k => ret (.int k)
    | none => err)
  | _, _ => err
def stripLo (cs s : List Nat) : Nat := (s.takeWhile fun x => cs.contains x).length
def stripHi (cs s : List Nat) : Nat := s.length - ((s.drop (stripLo cs s)).reverse.takeWhile fun x => cs.contains x).length
def stripL (cs s : List Nat) : List Nat := (s.drop (stripLo cs s)).take (stripHi cs s - stripLo cs s)
def stripD (o v : D) : M D := match o, v with
  | .str s, .str cs => ret (.str (stripL cs s))
  | _, _ => err
/-! ### kinds -/
inductive Kd where
  | int | bool | str | tuple | list | dict | verr | cls (c : Nat)
/-- the own classes' bases: is class c the class b or below it -/
def subC (c b : Nat) : Bool := c == b || b == 0
def isK (S : Store) (d : D) : Kd → Bool
  | .int => (match d with | .int _ => true | .bl _ => true | _ => false)
  | .bool => (match d with | .bl _ => true | _ => false)
  | .str => (match d with | .str _ => true | _ => false)
  | .tuple => (match d with | .tup _ => true | _ => false)
  | .list => (match d with | .kl _ => true | .loc n => (match S[n]? with | some (.lst _ _) => true | _ => false) | _ => false)
  | .dict => (match d with | .loc n => (match S[n]? with | some (.dic _) => true | _ => false) | _ => false)
  | .verr => isExc d
  | .cls b => (match d with | .exc c _ => subC c b | .loc n => (match S[n]? with | some (.ins c _) => c == b | _ => false) | _ => false)
/-- the receiver's kind, asked ahead of the arguments -/
def strK : D → M Unit
  | .str _ => ret ()
  | _ => err
def lstK : D → M Unit
  | .loc n => bnd (listW n) fun _ => ret ()
  | _ => err
def m0 (o : D → M D) (x : D) : List D → M D
  | [] => o x
  | _ => err
def m1 (o : D → D → M D) (x : D) : List D → M D
  | [y] => o x y
  | _ => err
def isiD (ks : List Kd) (d : D) : M D := fun S => .ok (.bl (ks.any fun k => isK S d k)) S
/-- a field of an exception, by its place among the class's fields -/
def xfldD (t : List (Nat × Nat)) (d : D) : M D := match d with
  | .exc c fs => (match t.lookup c with
    | some k => (match fs[k]? with
      | some v => ret v
      | none => err)
    | none => err)
  | _ => err

/-! ### expressions -/
def varE (i : Nat) : EE := fun δ => match δ[i]? with
  | some (some d) => ret d
  | _ => err
def cstE (d : D) : EE := fun _ => ret d
def op1E (o : D → M D) (a : EE) : EE := fun δ => bnd (a δ) o
def op2E (o : D → D → M D) (a b : EE) : EE := fun δ => bnd (a δ) fun x => bnd (b δ) fun y => o x y
def nilA : AA := fun _ => ret []
def consA (e : EE) (es : AA) : AA := fun δ => bnd (e δ) fun x => bnd (es δ) fun xs => ret (x :: xs)
def methE (k : D → M Unit) (o : D → List D → M D) (a : EE) (as : AA) : EE := fun δ => bnd (a δ) fun x => bnd (k x) fun _ => bnd (as δ) fun ys => o x ys
def opnE (o : List D → M D) (as : AA) : EE := fun δ => bnd (as δ) o
def valT (e : EE) : TT := fun δ => bnd (e δ) truth
def andT (a b : TT) : TT := fun δ => bnd (a δ) fun c => bif c then b δ else ret false
def orT (a b : TT) : TT := fun δ => bnd (a δ) fun c => bif c then ret true else b δ
def notT (a : TT) : TT := fun δ => bnd (a δ) fun c => ret (!c)
def iteE (t : TT) (a b : EE) : EE := fun δ => bnd (t δ) fun c => bif c then a δ else b δ
def andE (a b : EE) : EE := fun δ => bnd (a δ) fun x => bnd (truth x) fun c => bif c then b δ else ret x
def orE (a b : EE) : EE := fun δ => bnd (a δ) fun x => bnd (truth x) fun c => bif c then ret x else b δ
def notE (a : EE) : EE := fun δ => bnd (a δ) fun x => bnd (truth x) fun c => ret (.bl (!c))
def chainE (o o' : D → D → M D) (a b c : EE) : EE := fun δ => bnd (a δ) fun x => bnd (b δ) fun y => bnd (o x y) fun r => match r with
  | .bl true => bnd (c δ) fun z => o' y z
  | .bl false => ret (.bl false)
  | _ => err
def sliceE (o : EE) (lo hi : Option EE) : EE := fun δ => bnd (o δ) fun x => match lo, hi with
  | none, none => sliceD x none none
  | some a, none => bnd (a δ) fun i => bnd (chkI i) fun i => sliceD x (some i) none
  | none, some b => bnd (b δ) fun j => bnd (chkI j) fun j => sliceD x none (some j)
  | some a, some b => bnd (a δ) fun i => bnd (chkI i) fun i => bnd (b δ) fun j => bnd (chkI j) fun j => sliceD x (some i) (some j)
/-! ### what is walked -/
structure It where
  n : Nat
  get : Nat → M D
  fin : M Unit
abbrev II := Env → M It
def getL (l n i : Nat) : M D := bnd (listAt l) fun ys => bif decide (ys.length = n) then (match ys[i]? with
  | some d => ret d
  | none => err) else err
def finL (l n : Nat) : M Unit := bnd (listAt l) fun ys => bif decide (ys.length = n) then ret () else err
def getT (xs : List D) (i : Nat) : M D := match xs[i]? with
  | some d => ret d
  | none => err
def getS (s : List Nat) (i : Nat) : M D := match s[i]? with
  | some c => ret (.str [c])
  | none => err
def itOf : D → M It
  | .loc l => bnd (listAt l) fun xs => ret ⟨xs.length, getL l xs.length, finL l xs.length⟩
  | .tup xs => ret ⟨xs.length, getT xs, ret ()⟩
  | .kl xs => ret ⟨xs.length, getT xs, ret ()⟩
  | .str s => ret ⟨s.length, getS s, ret ()⟩
  | _ => err
def seqI (e : EE) : II := fun δ => bnd (e δ) itOf
@[irreducible] def rgOk (i : Int) : Bool := decide (-(2 ^ 62) ≤ i) && decide (i < 2 ^ 62)
def rangeIt1 : List D → M It
  | [.int j] => bif rgOk j then ret ⟨j.toNat, fun k => ret (.int (0 + (k : Int))), ret ()⟩ else err
  | _ => err
def rangeIt2 : List D → M It
  | [.int i, .int j] => bif rgOk i && rgOk j then ret ⟨(j - i).toNat, fun k => ret (.int (i + (k : Int))), ret ()⟩ else err
  | _ => err
def rangeI1 (as : AA) : II := fun δ => bnd (as δ) rangeIt1
def rangeI2 (as : AA) : II := fun δ => bnd (as δ) rangeIt2
/-! ### targets -/
abbrev TG := D → Env → M Env
def nameG (i : Nat) : TG := fun d δ => bif isExc d then err else ret (δ.set i (some d))
def eachG : List TG → List D → Env → M Env
  | [], [], δ => ret δ
  | t :: ts, d :: ds, δ => bnd (t d δ) fun δ' => eachG ts ds δ'
  | _, _, _ => err
def tupG (ts : List TG) : TG := fun d δ => match d with
  | .tup xs => bif decide (xs.length = ts.length) then eachG ts xs δ else err
  | _ => err
/-! ### comprehensions -/
def forget (δ : Env) : List Nat → Env
  | [] => δ
  | v :: vs => (forget δ vs).set v none
/-- no exception may leave -/
def calm {α : Type} (m : M α) : M α := fun S => match m S with
  | .exc _ _ _ => .bad
  | r => r
/-- the list at D grows -/
def pushL (n : Nat) (y : D) : M Unit := bnd (listW n) fun xs => putL n (xs ++ [y])
def collect (I : It) (n : Nat) (g : TG) (c : TT) (e : EE) (δ : Env) : Nat → Nat → M Unit
  | 0, _ => I.fin
  | k + 1, i => bnd (I.get i) fun d => bnd (g d δ) fun δ1 => bnd (c δ1) fun b =>
    bif b then bnd (e δ1) fun y => bnd (pushL n y) fun _ => collect I n g c e δ k (i + 1) else collect I n g c e δ k (i + 1)
def yesT : TT := fun _ => ret true
def compE (own : List Nat) (it : II) (g : TG) (c : TT) (e : EE) : EE := fun δ => bnd (it δ) fun I S => bnd (calm (collect I S.length g c e (forget δ own) I.n 0)) (fun _ => ret (.loc S.length)) (S ++ [.lst true []])
/-! ### statements -/
def skipS : SS := fun δ => ret (.nx δ)
def seqS (a b : SS) : SS := fun δ => bnd (a δ) fun f => match f with
  | .nx δ' => b δ'
  | f => ret f
def setS (g : TG) (e : EE) : SS := fun δ => bnd (e δ) fun d => bnd (g d δ) fun δ' => ret (.nx δ')
def parS (i j : Nat) (a b : EE) : SS := fun δ => bnd (a δ) fun x => bnd (b δ) fun y => bif isExc x || isExc y then err else ret (.nx ((δ.set i (some x)).set j (some y)))
def subS (o i e : EE) : SS := fun δ => bnd (e δ) fun v => bnd (o δ) fun x => bnd (i δ) fun k => bnd (setItemD x k v) fun _ => ret (.nx δ)
def exprS (e : EE) : SS := fun δ => bnd (e δ) fun _ => ret (.nx δ)
def retS (e : EE) : SS := fun δ => bnd (e δ) fun d => bif isExc d then err else ret (.rt d)
def iteS (t : TT) (a b : SS) : SS := fun δ => bnd (t δ) fun c => bif c then a δ else b δ
def brkS : SS := fun δ => ret (.bk δ)
def cntS : SS := fun δ => ret (.ct δ)
/-- n: the class's fields -/
def raiseS (c n : Nat) (as : AA) : SS := fun δ => bnd (as δ) fun xs => bif noExc xs && decide (xs.length = n) then thr c xs else err
/-- a class without fields -/
def raise0S (c : Nat) : SS := fun δ => thr c []
def forGo (I : It) (g : TG) (b : SS) : Nat → Nat → Env → M Fl
  | 0, _, δ => bnd I.fin fun _ => ret (.nx δ)
  | k + 1, i, δ => bnd (I.get i) fun d => bnd (g d δ) fun δ1 => bnd (b δ1) fun f => match f with
    | .nx δ2 => forGo I g b k (i + 1) δ2
    | .ct δ2 => forGo I g b k (i + 1) δ2
    | .bk δ2 => ret (.nx δ2)
    | .rt d => ret (.rt d)
def forS (it : II) (g : TG) (b : SS) : SS := fun δ => bnd (it δ) fun I => forGo I g b I.n 0 δ
def whileGo (t : TT) (b : SS) : Nat → Env → M Fl
  | 0, _ => err
  | k + 1, δ => bnd (t δ) fun c => bif c then bnd (b δ) fun f => (match f with
    | .nx δ2 => whileGo t b k δ2
    | .ct δ2 => whileGo t b k δ2
    | .bk δ2 => ret (.nx δ2)
    | .rt d => ret (.rt d)) else ret (.nx δ)
/-- more turns than any loop takes -/
def WF : Nat := 1000000000
def whileS (t : TT) (b : SS) : SS := whileGo t b WF
def noExcO : Option D → Bool
  | some d => !isExc d
  | none => true
/-- try: body / except cls as (the name at i): h; vs: what the body may assign -/
def tryS (vs : List Nat) (b : SS) (cls i : Nat) (h : SS) : SS := fun δ S => match b δ S with
  | .exc c fs S1 => bif subC c cls then bnd (calm (h ((forget δ vs).set i (some (.exc c fs))))) (fun f => match f with
      | .nx δ' => bif (δ'.set i none).all noExcO then ret (.nx (δ'.set i none)) else err
      | .bk δ' => bif (δ'.set i none).all noExcO then ret (.bk (δ'.set i none)) else err
      | .ct δ' => bif (δ'.set i none).all noExcO then ret (.ct (δ'.set i none)) else err
      | .rt d => ret (.rt d)) S1 else .exc c fs S1
  | r => r
/-! ### defs -/
/-- a call of the def f; dfl: the defaults that fill up -/
def callE (call : Nat → List D → M D) (f : Nat) (dfl : List D) (as : AA) : EE := fun δ => bnd (as δ) fun ds => call f (ds ++ dfl)
structure Fn where
  np : Nat
  ns : Nat
  body : (Nat → List D → M D) → SS
abbrev Tab := Nat → Option Fn
def endF : Fl → M D
  | .rt d => ret d
  | .nx _ => ret .non
  | _ => err
def startE (np ns : Nat) (as : List D) : Env := as.map some ++ List.replicate (ns - np) none
def callF (T : Tab) : Nat → Nat → List D → M D
  | 0, _, _ => err
  | n + 1, f, as => match T f with
    | some fn => bif decide (as.length = fn.np) then bnd (fn.body (callF T n) (startE fn.np fn.ns as)) endF else err
    | none => err

/-! ### rules of Wp -/
section
variable {α : Type} {S : Store} {E : Nat → List D → Store → Prop}
theorem wp_listAt {n : Nat} {Q : List D → Store → Prop} : Wp (listAt n) S Q E = ∃ w xs, S[n]? = some (.lst w xs) ∧ Q xs S := by
  unfold Wp listAt
  cases e : S[n]? with
  | none => exact propext ⟨fun h => h.elim, fun ⟨_, _, z, _⟩ => by cases z⟩
  | some o =>
    cases o with
    | lst w xs => exact propext ⟨fun h => ⟨w, xs, rfl, h⟩, fun ⟨w', xs', z, h⟩ => by cases z; exact h⟩
    | dic kvs => exact propext ⟨fun h => h.elim, fun ⟨_, _, z, _⟩ => by cases z⟩
    | ins c fs => exact propext ⟨fun h => h.elim, fun ⟨_, _, z, _⟩ => by cases z⟩
theorem wp_putL {n : Nat} {ys : List D} {Q : Unit → Store → Prop} : Wp (putL n ys) S Q E = ∃ xs, S[n]? = some (.lst true xs) ∧ noExc ys = true ∧ ys.length ≤ SZ ∧ Q () (S.set n (.lst true ys)) := by
  unfold Wp putL
  cases e : S[n]? with
  | none => exact propext ⟨fun h => h.elim, fun ⟨_, z, _⟩ => by cases z⟩
  | some o =>
    cases o with
    | lst w xs =>
      cases w with
      | false => exact propext ⟨fun h => h.elim, fun ⟨_, z, _⟩ => by cases z⟩
      | true =>
        cases z : (noExc ys && decide (ys.length ≤ SZ)) with
        | true =>
          rw [Bool.and_eq_true] at z
          refine propext ⟨fun h => ⟨xs, rfl, z.1, of_decide_eq_true z.2, ?_⟩, fun ⟨_, _, _, _, h⟩ => ?_⟩
          · simpa [z.1, z.2] using h
          · simpa [z.1, z.2] using h
        | false =>
          refine propext ⟨fun h => ?_, fun ⟨_, _, a, b, h⟩ => ?_⟩
          · simp [z] at h
          · rw [a, decide_eq_true b] at z; cases z
    | dic kvs => exact propext ⟨fun h => h.elim, fun ⟨_, z, _⟩ => by cases z⟩
    | ins c fs => exact propext ⟨fun h => h.elim, fun ⟨_, z, _⟩ => by cases z⟩
theorem wp_listW {n : Nat} {Q : List D → Store → Prop} : Wp (listW n) S Q E = ∃ xs, S[n]? = some (.lst true xs) ∧ Q xs S := by
  unfold Wp listW
  cases e : S[n]? with
  | none => exact propext ⟨fun h => h.elim, fun ⟨_, z, _⟩ => by cases z⟩
  | some o =>
    cases o with
    | lst w xs =>
      cases w with
      | true => exact propext ⟨fun h => ⟨xs, rfl, h⟩, fun ⟨xs', z, h⟩ => by cases z; exact h⟩
      | false => exact propext ⟨fun h => h.elim, fun ⟨_, z, _⟩ => by cases z⟩
    | dic kvs => exact propext ⟨fun h => h.elim, fun ⟨_, z, _⟩ => by cases z⟩
    | ins c fs => exact propext ⟨fun h => h.elim, fun ⟨_, z, _⟩ => by cases z⟩
theorem wp_new {o : Ob} {Q : D → Store → Prop} : Wp (new o) S Q E = Q (.loc S.length) (S ++ [o]) := rfl
theorem wp_if {b : Bool} {m m' : M α} {Q : α → Store → Prop} : Wp (bif b then m else m') S Q E = bif b then Wp m S Q E else Wp m' S Q E := by cases b <;> rfl
theorem wp_chk {b : Bool} {m : M α} {Q : α → Store → Prop} : Wp (bif b then m else err) S Q E = (b = true ∧ Wp m S Q E) := by
  cases b with
  | true => exact propext ⟨fun h => ⟨rfl, h⟩, fun h => h.2⟩
  | false => exact propext ⟨fun h => h.elim, fun h => by cases h.1⟩
theorem wp_newL {xs : List D} {Q : D → Store → Prop} : Wp (newL xs) S Q E = (noExc xs = true ∧ xs.length ≤ SZ ∧ Q (.loc S.length) (S ++ [.lst true xs])) := by
  unfold newL
  rw [wp_chk, wp_new, Bool.and_eq_true]
  simp only [decide_eq_true_eq, and_assoc]
theorem wp_mkTup {xs : List D} {Q : D → Store → Prop} : Wp (mkTup xs) S Q E = (noExc xs = true ∧ xs.length ≤ SZ ∧ Q (.tup xs) S) := by
  unfold mkTup
  rw [wp_chk, wp_ret, Bool.and_eq_true]
  simp only [decide_eq_true_eq, and_assoc]
end
end NB

set_option Elab.async false
set_option linter.all false
set_option maxRecDepth 100000
set_option maxHeartbeats 4000000
/-! Snd1: how the values and the store of Ev lie in the hand layer's values and heap. -/
namespace NB
open PySem PySem.Spec PyProof.Rows L2

theorem sz_eq : SZ = sizeLine := by rw [sizeLine_eq]; rfl

/-- the written part, the classes' places and fields -/
structure Cf where
  K : PySem.W.Frag
  nc : Nat
  cad : Nat → Addr
  cfl : Nat → List PySem.Str

/-- a list that nobody writes -/
def KSq (K : PySem.W.Frag) (H : Hp) (a : Addr) (xs : List V) : Prop := (∃ o, H a = some (.frz o (.lst xs))) ∨ ∃ (o : Obj) (its : Array Value) (n : Nat), K.lookup a = some o ∧ o.cls = .type "list" ∧ o.dict = none ∧ o.data = .seq its n ∧ its.size ≤ sizeLine ∧ Vals xs its.toList
theorem KSq.sql {K : PySem.W.Frag} {H : Hp} {a : Addr} {xs : List V} (h : KSq K H a xs) : SqL K H a xs := by
  rcases h with h | h
  · exact .inl (.inr h)
  · exact .inr h
mutual
inductive RepD (K : PySem.W.Frag) (ρ : List Addr) (H : Hp) : D → V → Prop where
  | non : RepD K ρ H .non .non
  | bl (b : Bool) : RepD K ρ H (.bl b) (.bl b)
  | int (i : Int) : RepD K ρ H (.int i) (.int i)
  | str {s : List Nat} (hz : s.length ≤ SZ) : RepD K ρ H (.str s) (.str ⟨s.toArray⟩)
  | tup {xs : List D} {a : Addr} {vs : List V} (h : SqT K H a vs) (r : RepL K ρ H xs vs) : RepD K ρ H (.tup xs) (.ref a)
  | loc {n : Nat} {a : Addr} (h : ρ[n]? = some a) : RepD K ρ H (.loc n) (.ref a)
  | kl {xs : List D} {a : Addr} {vs : List V} (h : KSq K H a vs) (r : RepL K ρ H xs vs) : RepD K ρ H (.kl xs) (.ref a)
inductive RepL (K : PySem.W.Frag) (ρ : List Addr) (H : Hp) : List D → List V → Prop where
  | nil : RepL K ρ H [] []
  | cons {d : D} {v : V} {ds : List D} {vs : List V} (h : RepD K ρ H d v) (t : RepL K ρ H ds vs) : RepL K ρ H (d :: ds) (v :: vs)
end

/-- later: ρ has grown by what was not tracked; what was tracked beside ρ stands; tuples and what is locked stand -/
structure Lat (ρ : List Addr) (H : Hp) (ρ' : List Addr) (H' : Hp) : Prop where
  pre : ρ <+: ρ'
  ext : ∀ b ∈ ρ', b ∉ ρ → H b = none
  keep : ∀ b o, b ∉ ρ → H b = some o → H' b = some o
  tups : ∀ b xs, H b = some (.tup xs) → H' b = some (.tup xs)
  frzs : ∀ b o u, H b = some (.frz o u) → H' b = some (.frz o u)
  xds : ∀ b fs, H b = some (.xd fs) → H' b = some (.xd fs)
theorem Lat.refl {ρ : List Addr} {H : Hp} : Lat ρ H ρ H := ⟨List.prefix_rfl, fun _ h n => absurd h n, fun _ _ _ h => h, fun _ _ h => h, fun _ _ _ h => h, fun _ _ h => h⟩
theorem Lat.trans {ρ ρ1 ρ2 : List Addr} {H H1 H2 : Hp} (a : Lat ρ H ρ1 H1) (b : Lat ρ1 H1 ρ2 H2) : Lat ρ H ρ2 H2 where
  pre := a.pre.trans b.pre
  ext := fun x hx hn => by
    by_cases h1 : x ∈ ρ1
    · exact a.ext x h1 hn
    · cases q : H x with
      | none => rfl
      | some o =>
        have z := a.keep x o hn q
        rw [b.ext x hx h1] at z
        cases z
  keep := fun x o hn q => by
    have z := a.keep x o hn q
    by_cases h1 : x ∈ ρ1
    · rw [a.ext x h1 hn] at q; cases q
    · exact b.keep x o h1 z
  tups := fun x xs q => b.tups x xs (a.tups x xs q)
  frzs := fun x o u q => b.frzs x o u (a.frzs x o u q)
  xds := fun x fs q => b.xds x fs (a.xds x fs q)
theorem Lat.get {ρ ρ' : List Addr} {H H' : Hp} (l : Lat ρ H ρ' H') {n : Nat} {a : Addr} (h : ρ[n]? = some a) : ρ'[n]? = some a := by
  obtain ⟨t, rfl⟩ := l.pre
  obtain ⟨hlt, _⟩ := List.getElem?_eq_some_iff.mp h
  rw [List.getElem?_append_left hlt]
  exact h
theorem Lat.sqt {K : PySem.W.Frag} {ρ ρ' : List Addr} {H H' : Hp} {a : Addr} {vs : List V} (l : Lat ρ H ρ' H') (h : SqT K H a vs) : SqT K H' a vs := by
  rcases h with (h | ⟨o, h⟩) | h
  · exact .inl (.inl (l.tups _ _ h))
  · exact .inl (.inr ⟨o, l.frzs _ _ _ h⟩)
  · exact .inr h

theorem Lat.ksq {K : PySem.W.Frag} {ρ ρ' : List Addr} {H H' : Hp} {a : Addr} {vs : List V} (l : Lat ρ H ρ' H') (h : KSq K H a vs) : KSq K H' a vs := by
  rcases h with ⟨o, h⟩ | h
  · exact .inl ⟨o, l.frzs _ _ _ h⟩
  · exact .inr h
section
variable {K : PySem.W.Frag} {ρ ρ' : List Addr} {H H' : Hp}
mutual
theorem RepD.mono (l : Lat ρ H ρ' H') : ∀ {d : D} {v : V}, RepD K ρ H d v → RepD K ρ' H' d v
  | _, _, .non => .non
  | _, _, .bl b => .bl b
  | _, _, .int i => .int i
  | _, _, .str hz => .str hz
  | _, _, .tup h r => .tup (l.sqt h) (RepL.mono l r)
  | _, _, .loc h => .loc (l.get h)
  | _, _, .kl h r => .kl (l.ksq h) (RepL.mono l r)
theorem RepL.mono (l : Lat ρ H ρ' H') : ∀ {ds : List D} {vs : List V}, RepL K ρ H ds vs → RepL K ρ' H' ds vs
  | _, _, .nil => .nil
  | _, _, .cons h t => .cons (RepD.mono l h) (RepL.mono l t)
end
theorem RepL.length : ∀ {ds : List D} {vs : List V}, RepL K ρ H ds vs → vs.length = ds.length
  | _, _, .nil => rfl
  | _, _, .cons _ t => congrArg (· + 1) t.length
theorem RepL.get : ∀ {ds : List D} {vs : List V} {i : Nat} {d : D}, RepL K ρ H ds vs → ds[i]? = some d → ∃ v, vs[i]? = some v ∧ RepD K ρ H d v
  | _, _, _, _, .nil, h => by simp at h
  | _, _, 0, _, .cons r _, h => by simp at h; subst h; exact ⟨_, rfl, r⟩
  | _, _, i + 1, _, .cons _ t, h => by
    obtain ⟨v, e, r⟩ := t.get (i := i) (by simpa using h)
    exact ⟨v, by simpa using e, r⟩
theorem RepL.append : ∀ {ds es : List D} {vs us : List V}, RepL K ρ H ds vs → RepL K ρ H es us → RepL K ρ H (ds ++ es) (vs ++ us)
  | _, _, _, _, .nil, q => q
  | _, _, _, _, .cons r t, q => .cons r (t.append q)
theorem RepL.take (n : Nat) : ∀ {ds : List D} {vs : List V}, RepL K ρ H ds vs → RepL K ρ H (ds.take n) (vs.take n) := fun {ds vs} r => by
  induction n generalizing ds vs with
  | zero => exact .nil
  | succ n ih => cases r with
    | nil => exact .nil
    | cons h t => exact .cons h (ih t)
theorem RepL.drop (n : Nat) : ∀ {ds : List D} {vs : List V}, RepL K ρ H ds vs → RepL K ρ H (ds.drop n) (vs.drop n) := fun {ds vs} r => by
  induction n generalizing ds vs with
  | zero => exact r
  | succ n ih => cases r with
    | nil => exact .nil
    | cons h t => exact ih t
theorem RepL.set (n : Nat) {d : D} {v : V} (q : RepD K ρ H d v) : ∀ {ds : List D} {vs : List V}, RepL K ρ H ds vs → RepL K ρ H (ds.set n d) (vs.set n v) := fun {ds vs} r => by
  induction n generalizing ds vs with
  | zero => cases r with
    | nil => exact .nil
    | cons h t => exact .cons q t
  | succ n ih => cases r with
    | nil => exact .nil
    | cons h t => exact .cons h (ih t)
theorem RepL.reverse : ∀ {ds : List D} {vs : List V}, RepL K ρ H ds vs → RepL K ρ H ds.reverse vs.reverse
  | _, _, .nil => .nil
  | _, _, .cons h t => by
    rw [List.reverse_cons, List.reverse_cons]
    exact t.reverse.append (.cons h .nil)
theorem RepL.eraseIdx (n : Nat) : ∀ {ds : List D} {vs : List V}, RepL K ρ H ds vs → RepL K ρ H (ds.eraseIdx n) (vs.eraseIdx n) := fun {ds vs} r => by
  induction n generalizing ds vs with
  | zero => cases r with
    | nil => exact .nil
    | cons h t => exact t
  | succ n ih => cases r with
    | nil => exact .nil
    | cons h t => exact .cons h (ih t)
end

/-- an object of the store at its address -/
def RepO (K : PySem.W.Frag) (ρ : List Addr) (H : Hp) : Ob → Addr → Prop
  | .lst true xs, a => ∃ vs, H a = some (.lst vs) ∧ RepL K ρ H xs vs
  | .lst false xs, a => (∃ vs, SqL K H a vs ∧ RepL K ρ H xs vs) ∧ ∃ o u, H a = some (.frz o u)
  | .dic kvs, a => False
  | .ins c fs, a => False
structure Sim (K : PySem.W.Frag) (ρ : List Addr) (S : Store) (H : Hp) : Prop where
  len : ρ.length = S.length
  nd : ρ.Nodup
  obj : ∀ (n : Nat) (o : Ob) (a : Addr), S[n]? = some o → ρ[n]? = some a → RepO K ρ H o a

section
variable {K : PySem.W.Frag} {ρ ρ' : List Addr} {H H' : Hp} {S : Store}
theorem RepO.some {o : Ob} {a : Addr} (r : RepO K ρ H o a) : ∃ u, H a = some u := by
  cases o with
  | lst w xs => cases w with
    | true => obtain ⟨vs, h, _⟩ := r; exact ⟨_, h⟩
    | false => obtain ⟨_, o, u, h⟩ := r; exact ⟨_, h⟩
  | dic kvs => exact r.elim
  | ins c fs => exact r.elim
theorem RepO.later (l : Lat ρ H ρ' H') {o : Ob} {a : Addr} (e : H' a = H a) (r : RepO K ρ H o a) : RepO K ρ' H' o a := by
  cases o with
  | lst w xs => cases w with
    | true =>
      obtain ⟨vs, h, q⟩ := r
      exact ⟨vs, e.trans h, q.mono l⟩
    | false =>
      obtain ⟨⟨vs, h, q⟩, o, u, f⟩ := r
      refine ⟨⟨vs, ?_, q.mono l⟩, o, u, e.trans f⟩
      rcases h with (h | ⟨o, h⟩) | h
      · exact .inl (.inl (e.trans h))
      · exact .inl (.inr ⟨o, e.trans h⟩)
      · exact .inr h
  | dic kvs => exact r.elim
  | ins c fs => exact r.elim
theorem Sim.at (s : Sim K ρ S H) {n : Nat} {o : Ob} (h : S[n]? = some o) : ∃ a, ρ[n]? = some a ∧ RepO K ρ H o a := by
  have hn : n < ρ.length := by rw [s.len]; exact (List.getElem?_eq_some_iff.mp h).1
  exact ⟨ρ[n], List.getElem?_eq_getElem hn, s.obj n o _ h (List.getElem?_eq_getElem hn)⟩
theorem Sim.mem (s : Sim K ρ S H) {b : Addr} (h : b ∈ ρ) : ∃ u, H b = some u := by
  obtain ⟨n, hn, e⟩ := List.getElem_of_mem h
  have h2 : n < S.length := by rw [← s.len]; exact hn
  exact (s.obj n S[n] b (List.getElem?_eq_getElem h2) (by rw [List.getElem?_eq_getElem hn, e])).some
theorem Sim.nin (s : Sim K ρ S H) {p : Addr} (h : H p = none) : p ∉ ρ := fun m => by
  obtain ⟨u, q⟩ := s.mem m
  rw [h] at q; cases q
/-- a new address, tracked beside the store or in it -/
theorem Lat.upd_new {p : Addr} {o : HO} (h : H p = none) : Lat ρ H ρ (upd H p o) :=
  ⟨List.prefix_rfl, fun _ h n => absurd h n, fun b u _ q => by rw [upd_ne (ne_of_none q h)]; exact q, fun b xs q => by rw [upd_ne (ne_of_none q h)]; exact q, fun b o u q => by rw [upd_ne (ne_of_none q h)]; exact q, fun b fs q => by rw [upd_ne (ne_of_none q h)]; exact q⟩
theorem Lat.grow {p : Addr} {o : HO} (h : H p = none) : Lat ρ H (ρ ++ [p]) (upd H p o) :=
  ⟨List.prefix_append _ _, fun b hb n => by
      rcases List.mem_append.mp hb with z | z
      · exact absurd z n
      · have e : b = p := by simpa using z
        rw [e]; exact h,
    fun b u _ q => by rw [upd_ne (ne_of_none q h)]; exact q, fun b xs q => by rw [upd_ne (ne_of_none q h)]; exact q, fun b o u q => by rw [upd_ne (ne_of_none q h)]; exact q, fun b fs q => by rw [upd_ne (ne_of_none q h)]; exact q⟩
theorem Sim.beside (s : Sim K ρ S H) {p : Addr} {o : HO} (h : H p = none) : Sim K ρ S (upd H p o) :=
  ⟨s.len, s.nd, fun n ob a e1 e2 => (s.obj n ob a e1 e2).later (.upd_new h) (by
    obtain ⟨u, q⟩ := (s.obj n ob a e1 e2).some
    exact upd_ne (ne_of_none q h))⟩
theorem Sim.grow (s : Sim K ρ S H) {p : Addr} {o : HO} {ob : Ob} (h : H p = none) (r : RepO K (ρ ++ [p]) (upd H p o) ob p) : Sim K (ρ ++ [p]) (S ++ [ob]) (upd H p o) := by
  refine ⟨by rw [List.length_append, List.length_append, s.len]; rfl, ?_, fun n ob' a e1 e2 => ?_⟩
  · refine List.nodup_append.mpr ⟨s.nd, by simp, fun x hx y hy => ?_⟩
    have e : y = p := by simpa using hy
    subst e
    rintro rfl
    exact s.nin h hx
  · by_cases hn : n < S.length
    · have hn' : n < ρ.length := by rw [s.len]; exact hn
      rw [List.getElem?_append_left hn] at e1
      rw [List.getElem?_append_left hn'] at e2
      refine (s.obj n ob' a e1 e2).later (.grow h) ?_
      obtain ⟨u, q⟩ := (s.obj n ob' a e1 e2).some
      exact upd_ne (ne_of_none q h)
    · have hn' : ¬ n < ρ.length := by rw [s.len]; exact hn
      rw [List.getElem?_append_right (by omega)] at e1
      rw [List.getElem?_append_right (by omega)] at e2
      have e0 : n - S.length = 0 := by
        by_cases z : n - S.length = 0
        · exact z
        · rw [List.getElem?_eq_none (by simp; omega)] at e1; cases e1
      have e0' : n - ρ.length = 0 := by rw [s.len]; exact e0
      rw [e0] at e1
      rw [e0'] at e2
      simp at e1 e2
      subst e1 e2
      exact r
/-- an object of the store is written -/
theorem Lat.write {n : Nat} {a : Addr} {vs : List V} {o : HO} (hn : ρ[n]? = some a) (h : H a = some (.lst vs)) : Lat ρ H ρ (upd H a o) := by
  have hm : a ∈ ρ := List.mem_of_getElem? hn
  refine ⟨List.prefix_rfl, fun _ h n => absurd h n, fun b u nb q => ?_, fun b xs q => ?_, fun b o u q => ?_, fun b fs q => ?_⟩
  · rw [upd_ne (fun z => nb (by rw [z]; exact hm))]; exact q
  · rw [upd_ne (ne_of q h (by intro z; cases z))]; exact q
  · rw [upd_ne (ne_of q h (by intro z; cases z))]; exact q
  · rw [upd_ne (ne_of q h (by intro z; cases z))]; exact q
theorem Sim.write (s : Sim K ρ S H) {n : Nat} {a : Addr} {vs : List V} {o : HO} {ob : Ob} (hn : ρ[n]? = some a) (h : H a = some (.lst vs)) (r : RepO K ρ (upd H a o) ob a) : Sim K ρ (S.set n ob) (upd H a o) := by
  refine ⟨by rw [List.length_set]; exact s.len, s.nd, fun m ob' b e1 e2 => ?_⟩
  by_cases hm : m = n
  · subst hm
    have hlt : m < S.length := by
      have := (List.getElem?_eq_some_iff.mp e1).1
      rwa [List.length_set] at this
    rw [List.getElem?_set_self hlt] at e1
    rw [hn] at e2
    cases e1; cases e2
    exact r
  · rw [List.getElem?_set_ne (Ne.symm hm)] at e1
    have hne : b ≠ a := fun z => by
      subst z
      exact hm (nodup_ix_any s.nd e2 hn)
    exact (s.obj m ob' b e1 e2).later (.write hn h) (upd_ne hne)
where
  nodup_ix_any {α : Type} {l : List α} (nd : l.Nodup) {i j : Nat} {x : α} (a : l[i]? = some x) (b : l[j]? = some x) : i = j := by
    obtain ⟨h1, e1⟩ := List.getElem?_eq_some_iff.mp a
    obtain ⟨h2, e2⟩ := List.getElem?_eq_some_iff.mp b
    exact (List.getElem_inj nd).mp (e1.trans e2.symm)
end
end NB

set_option Elab.async false
set_option linter.all false
set_option maxRecDepth 100000
set_option maxHeartbeats 4000000
/-! Snd2: the readings of Ev's combinators in the hand layer, and the plain expressions. -/
namespace NB
open PySem PySem.Spec L2
open PyProof.Rows hiding St

/-! ### exceptions, names -/
/-- an exception's fields: its dict's -/
def RepXF (K : PySem.W.Frag) (ρ : List Addr) (H : Hp) (names : List PySem.Str) (fs : List D) : Option Addr → Prop
  | none => fs = []
  | some dd => ∃ fvs, H dd = some (.xd fvs) ∧ fs.length = names.length ∧ ∀ (k : Nat) (x : PySem.Str) (d : D), names[k]? = some x → fs[k]? = some d → ∃ v, fvs.lookup x = some v ∧ RepD K ρ H d v
/-- an exception that leaves: its class, its dict -/
def RepE (C : Cf) (ρ : List Addr) (H : Hp) (c : Nat) (fs : List D) (cls : Value) (dd : Option Addr) : Prop := c < C.nc ∧ cls = .ref (C.cad c) ∧ RepXF C.K ρ H (C.cfl c) fs dd
/-- op: the exception that is handled here, its object -/
abbrev Hot := Option (Addr × Obj)
def RepX (C : Cf) (op : Hot) (ρ : List Addr) (H : Hp) (c : Nat) (fs : List D) (v : V) : Prop :=
  ∃ p, op = some p ∧ v = .ref p.1 ∧ c < C.nc ∧ p.2.cls = .ref (C.cad c) ∧ (∃ vs, p.2.data = .fields vs) ∧ RepXF C.K ρ H (C.cfl c) fs p.2.dict
def RepV (C : Cf) (op : Hot) (ρ : List Addr) (H : Hp) (d : D) (v : V) : Prop := RepD C.K ρ H d v ∨ ∃ c fs, d = .exc c fs ∧ RepX C op ρ H c fs v
def RepVs (C : Cf) (op : Hot) (ρ : List Addr) (H : Hp) : List D → List V → Prop
  | [], [] => True
  | d :: ds, v :: vs => RepV C op ρ H d v ∧ RepVs C op ρ H ds vs
  | _, _ => False
def EnvR (C : Cf) (op : Hot) (ρ : List Addr) (H : Hp) (δ : Env) (σ : St) : Prop :=
  δ.length = σ.length ∧ ∀ (i : Nat) (d : D), δ[i]? = some (some d) → ∃ v, σ[i]? = some (some v) ∧ RepV C op ρ H d v
section
variable {C : Cf} {op : Hot} {ρ ρ' : List Addr} {H H' : Hp}
theorem RepXF.mono {names : List PySem.Str} {fs : List D} {dd : Option Addr} (l : Lat ρ H ρ' H') (h : RepXF C.K ρ H names fs dd) : RepXF C.K ρ' H' names fs dd := by
  cases dd with
  | none => exact h
  | some dd =>
    obtain ⟨fvs, e, hl, q⟩ := h
    refine ⟨fvs, l.xds _ _ e, hl, fun k x d e1 e2 => ?_⟩
    obtain ⟨v, e3, r⟩ := q k x d e1 e2
    exact ⟨v, e3, r.mono l⟩
theorem RepV.mono {d : D} {v : V} (l : Lat ρ H ρ' H') (h : RepV C op ρ H d v) : RepV C op ρ' H' d v := by
  rcases h with h | ⟨c, fs, e, p, e1, e2, e0, e3, e4, h⟩
  · exact .inl (h.mono l)
  · exact .inr ⟨c, fs, e, p, e1, e2, e0, e3, e4, h.mono l⟩
theorem RepVs.mono : ∀ {ds : List D} {vs : List V}, Lat ρ H ρ' H' → RepVs C op ρ H ds vs → RepVs C op ρ' H' ds vs
  | [], [], _, _ => trivial
  | _ :: _, _ :: _, l, h => ⟨h.1.mono l, RepVs.mono l h.2⟩
  | [], _ :: _, _, h => h.elim
  | _ :: _, [], _, h => h.elim
theorem EnvR.mono {δ : Env} {σ : St} (l : Lat ρ H ρ' H') (h : EnvR C op ρ H δ σ) : EnvR C op ρ' H' δ σ :=
  ⟨h.1, fun i d e => let ⟨v, e1, r⟩ := h.2 i d e; ⟨v, e1, r.mono l⟩⟩
theorem RepV.plain {d : D} {v : V} (h : RepV C op ρ H d v) (n : isExc d = false) : RepD C.K ρ H d v := by
  rcases h with h | ⟨c, fs, e, _⟩
  · exact h
  · rw [e] at n; cases n
theorem RepVs.length : ∀ {ds : List D} {vs : List V}, RepVs C op ρ H ds vs → vs.length = ds.length
  | [], [], _ => rfl
  | _ :: _, _ :: _, h => congrArg (· + 1) (RepVs.length h.2)
  | [], _ :: _, h => h.elim
  | _ :: _, [], h => h.elim
theorem RepVs.plain : ∀ {ds : List D} {vs : List V}, RepVs C op ρ H ds vs → noExc ds = true → RepL C.K ρ H ds vs
  | [], [], _, _ => .nil
  | d :: ds, v :: vs, h, n => by
    have n' : (!isExc d && noExc ds) = true := n
    rw [Bool.and_eq_true] at n'
    exact .cons (h.1.plain (by simpa using n'.1)) (RepVs.plain h.2 n'.2)
  | [], _ :: _, h, _ => h.elim
  | _ :: _, [], h, _ => h.elim
theorem EnvR.set {δ : Env} {σ : St} {i : Nat} {d : D} {v : V} (h : EnvR C op ρ H δ σ) (r : RepV C op ρ H d v) : EnvR C op ρ H (δ.set i (some d)) (σ.set i (some v)) := by
  refine ⟨by rw [List.length_set, List.length_set]; exact h.1, fun j d' e => ?_⟩
  by_cases hj : i = j
  · subst hj
    have hlt : i < δ.length := by
      have := (List.getElem?_eq_some_iff.mp e).1
      rwa [List.length_set] at this
    rw [List.getElem?_set_self hlt] at e
    have e' : d = d' := by simpa using e
    subst e'
    exact ⟨v, List.getElem?_set_self (by rw [← h.1]; exact hlt), r⟩
  · rw [List.getElem?_set_ne hj] at e
    rw [List.getElem?_set_ne hj]
    exact h.2 j d' e
theorem EnvR.unset {δ : Env} {σ : St} {i : Nat} (h : EnvR C op ρ H δ σ) : EnvR C op ρ H (δ.set i none) (σ.set i none) := by
  refine ⟨by rw [List.length_set, List.length_set]; exact h.1, fun j d' e => ?_⟩
  by_cases hj : i = j
  · subst hj
    have hlt : i < δ.length := by
      have := (List.getElem?_eq_some_iff.mp e).1
      rwa [List.length_set] at this
    rw [List.getElem?_set_self hlt] at e
    cases e
  · rw [List.getElem?_set_ne hj] at e
    rw [List.getElem?_set_ne hj]
    exact h.2 j d' e
end

/-! ### where a piece of Ev stands -/
/-- what is wanted of an exception -/
def EX (C : Cf) (W : WX) (σ : St) (ρ : List Addr) (H : Hp) : Nat → List D → Store → Prop := fun c fs S' =>
  ∀ ρ' H' cls dd, Lat ρ H ρ' H' → Sim C.K ρ' S' H' → RepE C ρ' H' c fs cls dd → W cls dd σ H'
def At {α : Type} (C : Cf) (W : WX) (σ : St) (ρ : List Addr) (H : Hp) (S : Store) (m : M α) (R : α → Store → List Addr → Hp → Prop) : Prop :=
  Sim C.K ρ S H ∧ Wp m S (fun a S' => ∀ ρ' H', Lat ρ H ρ' H' → Sim C.K ρ' S' H' → R a S' ρ' H') (EX C W σ ρ H)
section
variable {C : Cf} {op : Hot} {W : WX} {σ : St} {ρ : List Addr} {H : Hp} {S : Store} {α β : Type} {m : M α} {R R' : α → Store → List Addr → Hp → Prop}
theorem EX.mono {ρ1 : List Addr} {H1 : Hp} {c : Nat} {fs : List D} {S' : Store} (l : Lat ρ H ρ1 H1) (h : EX C W σ ρ H c fs S') : EX C W σ ρ1 H1 c fs S' :=
  fun ρ' H' cls dd l' s r => h ρ' H' cls dd (l.trans l') s r
theorem At.imp (h : At C W σ ρ H S m R) (f : ∀ a S' ρ' H', Lat ρ H ρ' H' → Sim C.K ρ' S' H' → R a S' ρ' H' → R' a S' ρ' H') : At C W σ ρ H S m R' :=
  ⟨h.1, wp_mono h.2 (fun a S' q ρ' H' l s => f a S' ρ' H' l s (q ρ' H' l s)) fun _ _ _ q => q⟩
theorem At.bnd {k : α → M β} {R : β → Store → List Addr → Hp → Prop} (h : At C W σ ρ H S (NB.bnd m k) R) : At C W σ ρ H S m fun a S1 ρ1 H1 => At C W σ ρ1 H1 S1 (k a) R := by
  obtain ⟨s, h⟩ := h
  rw [wp_bnd] at h
  refine ⟨s, wp_mono h (fun a S1 q ρ1 H1 l1 s1 => ⟨s1, wp_mono q (fun b S2 q2 ρ2 H2 l2 s2 => q2 ρ2 H2 (l1.trans l2) s2) fun c fs S' z => z.mono l1⟩) fun _ _ _ z => z⟩
theorem At.ret {a : α} (h : At C W σ ρ H S (NB.ret a) R) : R a S ρ H := h.2 ρ H .refl h.1
theorem At.err (h : At C W σ ρ H S (NB.err : M α) R) : False := h.2
theorem At.chk {b : Bool} (h : At C W σ ρ H S (bif b then m else NB.err) R) : b = true ∧ At C W σ ρ H S m R := by
  cases b with
  | true => exact ⟨rfl, h⟩
  | false => exact h.err.elim
theorem At.listAt {n : Nat} {R : List D → Store → List Addr → Hp → Prop} (h : At C W σ ρ H S (NB.listAt n) R) : ∃ w xs, S[n]? = some (.lst w xs) ∧ R xs S ρ H := by
  obtain ⟨s, h⟩ := h
  rw [wp_listAt] at h
  obtain ⟨w, xs, e, q⟩ := h
  exact ⟨w, xs, e, q ρ H .refl s⟩
theorem At.listW {n : Nat} {R : List D → Store → List Addr → Hp → Prop} (h : At C W σ ρ H S (NB.listW n) R) : ∃ xs, S[n]? = some (.lst true xs) ∧ R xs S ρ H := by
  obtain ⟨s, h⟩ := h
  rw [wp_listW] at h
  obtain ⟨xs, e, q⟩ := h
  exact ⟨xs, e, q ρ H .refl s⟩
theorem At.new {o : Ob} {R : D → Store → List Addr → Hp → Prop} (h : At C W σ ρ H S (NB.new o) R) : ∀ ρ' H', Lat ρ H ρ' H' → Sim C.K ρ' (S ++ [o]) H' → R (.loc S.length) (S ++ [o]) ρ' H' := h.2
theorem At.newL {xs : List D} {R : D → Store → List Addr → Hp → Prop} (h : At C W σ ρ H S (NB.newL xs) R) :
    noExc xs = true ∧ xs.length ≤ sizeLine ∧ ∀ ρ' H', Lat ρ H ρ' H' → Sim C.K ρ' (S ++ [.lst true xs]) H' → R (.loc S.length) (S ++ [.lst true xs]) ρ' H' := by
  obtain ⟨e, h⟩ := h.chk
  rw [Bool.and_eq_true] at e
  exact ⟨e.1, by rw [← sz_eq]; exact of_decide_eq_true e.2, h.new⟩
/-- a new list is laid -/
theorem At.newL_at {xs : List D} {vs : List V} {R : D → Store → List Addr → Hp → Prop} {p : Addr} (h : At C W σ ρ H S (NB.newL xs) R) (r : RepL C.K ρ H xs vs) (hp : H p = none) :
    R (.loc S.length) (S ++ [.lst true xs]) (ρ ++ [p]) (upd H p (.lst vs)) ∧ (ρ ++ [p])[S.length]? = some p := by
  obtain ⟨_, _, q⟩ := h.newL
  have l : Lat ρ H (ρ ++ [p]) (upd H p (.lst vs)) := .grow hp
  refine ⟨q _ _ l (h.1.grow hp ⟨vs, upd_same, r.mono l⟩), ?_⟩
  rw [← h.1.len]
  simp
theorem At.putL {n : Nat} {ys : List D} {R : Unit → Store → List Addr → Hp → Prop} (h : At C W σ ρ H S (NB.putL n ys) R) :
    ∃ xs, S[n]? = some (.lst true xs) ∧ noExc ys = true ∧ ys.length ≤ sizeLine ∧ ∀ ρ' H', Lat ρ H ρ' H' → Sim C.K ρ' (S.set n (.lst true ys)) H' → R () (S.set n (.lst true ys)) ρ' H' := by
  obtain ⟨s, h⟩ := h
  rw [wp_putL, sz_eq] at h
  exact h
/-- a list of the store is written -/
theorem At.putL_at {n : Nat} {ys : List D} {vs : List V} {R : Unit → Store → List Addr → Hp → Prop} {a : Addr} (h : At C W σ ρ H S (NB.putL n ys) R) (hn : ρ[n]? = some a) (r : RepL C.K ρ H ys vs) :
    R () (S.set n (.lst true ys)) ρ (upd H a (.lst vs)) := by
  obtain ⟨xs, e, _, _, q⟩ := h.putL
  obtain ⟨us, ha, _⟩ : RepO C.K ρ H (.lst true xs) a := h.1.obj n _ a e hn
  have l : Lat ρ H ρ (upd H a (.lst vs)) := .write hn ha
  exact q _ _ l (h.1.write hn ha ⟨vs, upd_same, r.mono l⟩)
/-- the list at a place -/
theorem Sim.seqAt {K : PySem.W.Frag} {ρ : List Addr} {S : Store} {H : Hp} (s : Sim K ρ S H) {n : Nat} {a : Addr} {w : Bool} {xs : List D} (h : S[n]? = some (.lst w xs)) (hn : ρ[n]? = some a) : ∃ vs, SqL K H a vs ∧ RepL K ρ H xs vs := by
  have r := s.obj n _ a h hn
  cases w with
  | true => obtain ⟨vs, e, q⟩ := r; exact ⟨vs, .inl (.inl e), q⟩
  | false => exact r.1
/-- the written list at a place -/
theorem Sim.wAt {K : PySem.W.Frag} {ρ : List Addr} {S : Store} {H : Hp} (s : Sim K ρ S H) {n : Nat} {a : Addr} {xs : List D} (h : S[n]? = some (.lst true xs)) (hn : ρ[n]? = some a) : ∃ vs, H a = some (.lst vs) ∧ RepL K ρ H xs vs := s.obj n _ a h hn
end

/-! ### readings -/
def tE (C : Cf) (op : Hot) (W : WX) (m : EE) : TE := fun σ H Q => ∃ ρ S δ, EnvR C op ρ H δ σ ∧ At C W σ ρ H S (m δ) fun d _ ρ' H' => ∀ v, RepV C op ρ' H' d v → Q v H'
def tT (C : Cf) (op : Hot) (W : WX) (m : TT) : L2.TT := fun σ H Q => ∃ ρ S δ, EnvR C op ρ H δ σ ∧ At C W σ ρ H S (m δ) fun b _ _ H' => Q b H'
def tA (C : Cf) (op : Hot) (W : WX) (m : AA) : TA := fun σ H Q => ∃ ρ S δ, EnvR C op ρ H δ σ ∧ At C W σ ρ H S (m δ) fun ds _ ρ' H' => ∀ vs, RepVs C op ρ' H' ds vs → Q vs H'
/-- a reading may be weakened -/
theorem pe_imp {X : Cx} {e : Expr} {t t' : TE} (h : PE X e t) (f : ∀ σ H Q, t' σ H Q → t σ H Q) : PE X e t' := ⟨fun pins s σ H Q I q => h.run pins s σ H Q I (f σ H Q q)⟩
theorem pt_imp {X : Cx} {e : Expr} {t t' : L2.TT} (h : PT X e t) (f : ∀ σ H Q, t' σ H Q → t σ H Q) : PT X e t' := ⟨fun pins s σ H Q I q => h.run pins s σ H Q I (f σ H Q q)⟩
theorem pa_imp {X : Cx} {e : List Expr} {t t' : TA} (h : PA X e t) (f : ∀ σ H Q, t' σ H Q → t σ H Q) : PA X e t' := ⟨fun pos pins s σ H Q I q => h.run pos pins s σ H Q I (f σ H Q q)⟩

section
variable {C : Cf} {op : Hot} {W : WX} {X : Cx} {e a b : Expr} {es : List Expr} {m ma mb mc : EE} {ms : AA} {t ta tb : TT} {pos : Pos}
theorem ge_var {i : Nat} {x : PySem.Str} (hN : X.N[i]? = some x) (hv : Vis X.env.scope x) (hd : (x == ("__debug__" : PySem.Str)) = false) (hcd : (x == ("__classdict__" : PySem.Str)) = false) : PE X (.Name x pos) (tE C op W (varE i)) := by
  refine pe_imp (pe_var hN hv hd hcd) fun σ H Q ⟨ρ, S, δ, en, h⟩ => ?_
  unfold varE at h
  split at h
  · rename_i d e
    obtain ⟨v, e1, r⟩ := en.2 i d e
    exact ⟨v, e1, h.ret v r⟩
  · exact h.err.elim
/-- a constant's value -/
def CstOk (c : Const) (d : D) : Prop := match c with
  | .none => d = .non
  | .bool b => d = .bl b
  | .int i => d = .int i
  | .str s => d = .str s.cps.toList ∧ s.length ≤ SZ
  | _ => False
theorem str_eta (s : PySem.Str) : (⟨s.cps.toList.toArray⟩ : PySem.Str) = s := by cases s; rfl
theorem ge_cst {c : Const} {k : Nat} {d : D} (h : CstOk c d) : PE X (.Constant c k pos) (tE C op W (cstE d)) := by
  cases c with
  | none =>
    cases (show d = .non from h)
    exact pe_imp pe_non fun σ H Q ⟨ρ, S, δ, en, h⟩ => h.ret _ (.inl .non)
  | bool b =>
    cases (show d = .bl b from h)
    exact pe_imp pe_bl fun σ H Q ⟨ρ, S, δ, en, h⟩ => h.ret _ (.inl (.bl b))
  | int i =>
    cases (show d = .int i from h)
    exact pe_imp pe_int fun σ H Q ⟨ρ, S, δ, en, h⟩ => h.ret _ (.inl (.int i))
  | str s =>
    obtain ⟨e, hz⟩ : d = .str s.cps.toList ∧ s.length ≤ SZ := h
    subst e
    refine pe_imp pe_str fun σ H Q ⟨ρ, S, δ, en, h⟩ => h.ret _ (.inl ?_)
    have r : RepD C.K ρ H (.str s.cps.toList) (.str ⟨s.cps.toList.toArray⟩) := .str (by simpa [PySem.Str.length] using hz)
    rw [str_eta] at r
    exact r
  | _ => exact h.elim
/-- a global that holds a value -/
def GlobOk (C : Cf) (mg : PySem.Str → Option Value) (x : PySem.Str) (d : D) : Prop := ∃ v u, mg x = some u ∧ RelV v u ∧ ∀ ρ H, RepD C.K ρ H d v
theorem ge_glob {x : PySem.Str} {d : D} (hg : Gl X x) (h : GlobOk C X.mg x d) (hd : (x == ("__debug__" : PySem.Str)) = false) : PE X (.Name x pos) (tE C op W (cstE d)) := by
  obtain ⟨v, u, hm, r, q⟩ := h
  exact pe_imp (pe_glob hg hm r hd) fun σ H Q ⟨ρ, S, δ, en, h⟩ => h.ret _ (.inl (q ρ H))

/-! ### operators -/
/-- two places: what f gives on values as o tells -/
def Op2 (C : Cf) (X : Cx) (f : Value → Value → Sem Value) (o : D → D → M D) : Prop := ∀ (op : Hot) (W : WX) (σ0 : St), OpR X f fun x y H Q =>
  ∃ ρ S d1 d2, RepV C op ρ H d1 x ∧ RepV C op ρ H d2 y ∧ At C W σ0 ρ H S (o d1 d2) fun d _ ρ' H' => ∀ v, RepV C op ρ' H' d v → Q v H'
def Op1 (C : Cf) (X : Cx) (f : Value → Sem Value) (o : D → M D) : Prop := ∀ (op : Hot) (W : WX) (σ0 : St), UnR X f fun x H Q =>
  ∃ ρ S d1, RepV C op ρ H d1 x ∧ At C W σ0 ρ H S (o d1) fun d _ ρ' H' => ∀ v, RepV C op ρ' H' d v → Q v H'
theorem op_imp {f : Value → Value → Sem Value} {r r' : R2} (h : OpR X f r) (q : ∀ x y H Q, r' x y H Q → r x y H Q) : OpR X f r' := fun pins s σ H x y v u Q I rx ry z => h pins s σ H x y v u Q I rx ry (q x y H Q z)
/-- two arguments, one behind the other -/
theorem two {R : V → V → Hp → Prop} {σ : St} {H : Hp} {k : D → D → M D} {Q : VK} (h : tE C op W (fun δ => bnd (ma δ) fun x => bnd (mb δ) fun y => k x y) σ H Q)
    (f : ∀ x y H2 ρ S d1 d2, RepV C op ρ H2 d1 x → RepV C op ρ H2 d2 y → At C W σ ρ H2 S (k d1 d2) (fun d _ ρ' H' => ∀ v, RepV C op ρ' H' d v → Q v H') → R x y H2) :
    tE C op W ma σ H fun x H1 => tE C op W mb σ H1 fun y H2 => R x y H2 := by
  obtain ⟨ρ, S, δ, en, h⟩ := h
  refine ⟨ρ, S, δ, en, h.bnd.imp fun d1 S1 ρ1 H1 l1 s1 h1 x r1 => ?_⟩
  exact ⟨ρ1, S1, δ, en.mono l1, h1.bnd.imp fun d2 S2 ρ2 H2 l2 s2 h2 y r2 => f x y H2 ρ2 S2 d1 d2 (r1.mono l2) r2 h2⟩
theorem ge_bin {o : Operator} {k : D → D → M D} (ho : Op2 C X (binaryOp o) k) (ha : PE X a (tE C op W ma)) (hb : PE X b (tE C op W mb)) : PE X (.BinOp a o b pos) (tE C op W (op2E k ma mb)) := by
  refine ⟨fun pins s σ H Q I h => ?_⟩
  exact (pe_op (pos := pos) (ho op W σ) ha hb).run pins s σ H Q I (two h fun x y H2 ρ S d1 d2 r1 r2 q => ⟨ρ, S, d1, d2, r1, r2, q⟩)
theorem ge_cmp {o : CmpOp} {k : D → D → M D} (ho : Op2 C X (compareOp o) k) (ha : PE X a (tE C op W ma)) (hb : PE X b (tE C op W mb)) (hm : behindInMarks o b = false) : PE X (.Compare a [o] [b] pos) (tE C op W (op2E k ma mb)) := by
  refine ⟨fun pins s σ H Q I h => ?_⟩
  exact (pe_cmpR (pos := pos) (ho op W σ) ha hb hm).run pins s σ H Q I (two h fun x y H2 ρ S d1 d2 r1 r2 q => ⟨ρ, S, d1, d2, r1, r2, q⟩)
theorem ge_un {o : UnaryOp} {k : D → M D} (ho : Op1 C X (unaryOp o) k) (ha : PE X a (tE C op W ma)) : PE X (.UnaryOp o a pos) (tE C op W (op1E k ma)) := by
  refine ⟨fun pins s σ H Q I h => ?_⟩
  refine (pe_un (pos := pos) (ho op W σ) ha).run pins s σ H Q I ?_
  obtain ⟨ρ, S, δ, en, h⟩ := h
  exact ⟨ρ, S, δ, en, h.bnd.imp fun d1 S1 ρ1 H1 l1 s1 h1 x r1 => ⟨ρ1, S1, d1, r1, h1⟩⟩
/-! ### tests -/
theorem gt_cmp {o : CmpOp} {k : D → D → M D} (ho : Op2 C X (compareOp o) k) (ha : PE X a (tE C op W ma)) (hb : PE X b (tE C op W mb)) (hm : behindInMarks o b = false)
    (hk : ∀ x y S d S', k x y S = .ok d S' → ∃ b, d = .bl b) : PT X (.Compare a [o] [b] pos) (tT C op W (valT (op2E k ma mb))) := by
  refine ⟨fun pins s σ H Q I h => ?_⟩
  refine (pt_cmpR (pos := pos) (ho op W σ) ha hb hm).run pins s σ H Q I ?_
  obtain ⟨ρ, S, δ, en, h⟩ := h
  have h' : At C W σ ρ H S (bnd (ma δ) fun x => bnd (mb δ) fun y => bnd (k x y) truth) fun b _ _ H' => Q b H' := by
    have e : valT (op2E k ma mb) δ = bnd (ma δ) fun x => bnd (mb δ) fun y => bnd (k x y) truth := by
      unfold valT op2E
      rw [bnd_assoc]
      congr 1; funext x
      rw [bnd_assoc]
    rw [← e]; exact h
  refine ⟨ρ, S, δ, en, h'.bnd.imp fun d1 S1 ρ1 H1 l1 s1 h1 x r1 => ?_⟩
  refine ⟨ρ1, S1, δ, en.mono l1, h1.bnd.imp fun d2 S2 ρ2 H2 l2 s2 h2 y r2 => ?_⟩
  refine ⟨ρ2, S2, d1, d2, r1.mono l2, r2, ?_⟩
  obtain ⟨s2', w⟩ := h2
  refine ⟨s2', ?_⟩
  rw [wp_bnd] at w
  unfold Wp at w ⊢
  cases q : k d1 d2 S2 with
  | ok d S3 =>
    rw [q] at w
    obtain ⟨b, rfl⟩ := hk d1 d2 S2 d S3 q
    intro ρ' H' l' s' v rv
    have z : (v : V) = .bl b := by
      cases rv.plain rfl
      rfl
    exact ⟨b, z, w ρ' H' l' s'⟩
  | exc c f S3 => rw [q] at w; exact w
  | bad => rw [q] at w; exact w
end
end NB

set_option Elab.async false
set_option linter.all false
set_option maxRecDepth 100000
set_option maxHeartbeats 4000000
/-! Snd3: the operators. -/
namespace NB
open PySem PySem.Spec L2
open PyProof.Rows hiding St

section
variable {C : Cf} {X : Cx} {ρ : List Addr} {H : Hp}
theorem rep_int {i : Int} {v : V} (r : RepD C.K ρ H (.int i) v) : v = .int i := by cases r; rfl
theorem rep_bl {i : Bool} {v : V} (r : RepD C.K ρ H (.bl i) v) : v = .bl i := by cases r; rfl
theorem rep_non {v : V} (r : RepD C.K ρ H .non v) : v = .non := by cases r; rfl
theorem rep_str {s : List Nat} {v : V} (r : RepD C.K ρ H (.str s) v) : v = .str ⟨s.toArray⟩ ∧ s.length ≤ SZ := by cases r with | str hz => exact ⟨rfl, hz⟩
theorem rep_tup {xs : List D} {v : V} (r : RepD C.K ρ H (.tup xs) v) : ∃ a vs, v = .ref a ∧ SqT C.K H a vs ∧ RepL C.K ρ H xs vs := by cases r with | tup h q => exact ⟨_, _, rfl, h, q⟩
theorem rep_kl {xs : List D} {v : V} (r : RepD C.K ρ H (.kl xs) v) : ∃ a vs, v = .ref a ∧ KSq C.K H a vs ∧ RepL C.K ρ H xs vs := by cases r with | kl h q => exact ⟨_, _, rfl, h, q⟩
theorem rep_loc {n : Nat} {v : V} (r : RepD C.K ρ H (.loc n) v) : ∃ a, v = .ref a ∧ ρ[n]? = some a := by cases r with | loc h => exact ⟨_, rfl, h⟩
theorem str_app (a b : List Nat) : (⟨a.toArray⟩ : PySem.Str) ++ ⟨b.toArray⟩ = ⟨(a ++ b).toArray⟩ := by
  show (⟨a.toArray ++ b.toArray⟩ : PySem.Str) = _
  simp
theorem str_len (a : List Nat) : (⟨a.toArray⟩ : PySem.Str).length = a.length := by simp [PySem.Str.length]
/-- the end: a plain value that needs no heap -/
theorem fin {op : Hot} {W : WX} {σ : L2.St} {S : Store} {d : D} {Q : VK} (h : At C W σ ρ H S (ret d) fun d _ ρ' H' => ∀ v, RepV C op ρ' H' d v → Q v H') {v : V} (r : RepD C.K ρ H d v) : Q v H := h.ret v (.inl r)
/-- a new list -/
theorem fin_new {op : Hot} {W : WX} {σ : L2.St} {S : Store} {xs : List D} {vs : List V} {Q : VK} (h : At C W σ ρ H S (newL xs) fun d _ ρ' H' => ∀ v, RepV C op ρ' H' d v → Q v H') (r : RepL C.K ρ H xs vs) (p : Addr) (hp : H p = none) : Q (.ref p) (upd H p (.lst vs)) := by
  obtain ⟨q, e⟩ := h.newL_at r hp
  exact q (.ref p) (.inl (.loc e))
/-- a new tuple -/
theorem fin_tup {op : Hot} {W : WX} {σ : L2.St} {S : Store} {xs : List D} {vs : List V} {Q : VK} (h : At C W σ ρ H S (ret (.tup xs)) fun d _ ρ' H' => ∀ v, RepV C op ρ' H' d v → Q v H') (r : RepL C.K ρ H xs vs) (p : Addr) (hp : H p = none) : Q (.ref p) (upd H p (.tup vs)) := by
  have l : Lat ρ H ρ (upd H p (.tup vs)) := .upd_new hp
  exact h.2 ρ _ l (h.1.beside hp) (.ref p) (.inl (.tup (.inl (.inl upd_same)) (r.mono l)))

theorem op2_add (hK : X.K = C.K) : Op2 C X (binaryOp .Add) addD := by
  intro op W σ0 pins s σ H x y v u Q I rx ry ⟨ρ, S, d1, d2, r1, r2, h⟩
  cases d1 with
  | int i => cases d2 with
    | int j =>
      cases rep_int (r1.plain rfl); cases rep_int (r2.plain rfl)
      exact op_add pins s σ H _ _ v u Q I rx ry ⟨i, j, rfl, rfl, fin h (.int _)⟩
    | _ => exact h.err.elim
  | str a => cases d2 with
    | str b =>
      obtain ⟨e1, _⟩ := rep_str (r1.plain rfl); obtain ⟨e2, _⟩ := rep_str (r2.plain rfl)
      subst e1 e2
      obtain ⟨hz, h⟩ := h.chk
      have hz := of_decide_eq_true hz
      refine op_add_str pins s σ H _ _ v u Q I rx ry ⟨_, _, rfl, rfl, by rw [str_len, str_len, ← sz_eq]; exact hz, ?_⟩
      rw [str_app]
      exact fin h (.str (by rw [List.length_append]; exact hz))
    | _ => exact h.err.elim
  | tup a => cases d2 with
    | tup b =>
      obtain ⟨p1, v1, e1, t1, q1⟩ := rep_tup (r1.plain rfl)
      obtain ⟨p2, v2, e2, t2, q2⟩ := rep_tup (r2.plain rfl)
      subst e1 e2
      obtain ⟨hz, h⟩ := h.chk
      have hz := of_decide_eq_true hz
      refine op_catA pins s σ H _ _ v u Q I rx ry ⟨p1, p2, v1, v2, rfl, rfl, by rw [hK]; exact t1, by rw [hK]; exact t2, by rw [q1.length, q2.length, ← sz_eq]; exact hz, fun z => ?_, fun _ z => ?_, fun _ _ => fin_tup h (q1.append q2)⟩
      · subst z
        cases q1
        exact fin h (.tup t2 q2)
      · subst z
        cases q2
        refine fin h (.tup t1 ?_)
        rw [List.append_nil]; exact q1
    | _ => exact h.err.elim
  | loc a => cases d2 with
    | loc b =>
      obtain ⟨p1, e1, g1⟩ := rep_loc (r1.plain rfl)
      obtain ⟨p2, e2, g2⟩ := rep_loc (r2.plain rfl)
      subst e1 e2
      have hs := h.1
      obtain ⟨xs, s1, h⟩ := (show At C W σ0 ρ H S (bnd (listW a) fun xs => bnd (listW b) fun ys => newL (xs ++ ys)) _ from h).bnd.listW
      obtain ⟨ys, s2, h⟩ := h.bnd.listW
      obtain ⟨v1, l1, q1⟩ := hs.wAt s1 g1
      obtain ⟨v2, l2, q2⟩ := hs.wAt s2 g2
      have q := q1.append q2
      have hz := h.newL.2.1
      rw [← q.length, List.length_append] at hz
      exact op_cat pins s σ H _ _ v u Q I rx ry ⟨p1, p2, v1, v2, rfl, rfl, l1, l2, hz, fin_new h q⟩
    | _ => exact h.err.elim
  | _ => exact h.err.elim
theorem op2_sub : Op2 C X (binaryOp .Sub) subD := by
  intro op W σ0 pins s σ H x y v u Q I rx ry ⟨ρ, S, d1, d2, r1, r2, h⟩
  cases d1 with
  | int i => cases d2 with
    | int j =>
      cases rep_int (r1.plain rfl); cases rep_int (r2.plain rfl)
      exact op_sub pins s σ H _ _ v u Q I rx ry ⟨i, j, rfl, rfl, fin h (.int _)⟩
    | _ => exact h.err.elim
  | _ => exact h.err.elim
theorem abs_lt {i : Int} (h : i.natAbs < 2 ^ 64) : -(2 ^ 64) < i ∧ i < 2 ^ 64 := by omega
theorem mulOk_ok {i j : Int} (h : mulOk i j = true) : IntMulOk i j := by
  unfold mulOk at h
  rw [Bool.or_eq_true, Bool.or_eq_true] at h
  rcases h with (h | h) | h
  · exact CMul.ok (.inl (abs_lt (of_decide_eq_true h)))
  · exact CMul.ok (.inr (abs_lt (of_decide_eq_true h)))
  · have z : i.natAbs.log2 + j.natAbs.log2 < 1000000 := of_decide_eq_true h
    exact CMulW.ok z
theorem op_mulA : OpR X (binaryOp .Mult) (rI (fun i j => mulOk i j = true) fun i j => .int (i * j)) := opI fun _ _ _ _ _ _ _ hc q => mul_int q (mulOk_ok hc)
theorem divOk_ok {i j : Int} (h : divOk i j = true) : 0 < j ∧ Builtin.divisionGoesByPylong i j = false := by
  unfold divOk at h
  rw [Bool.and_eq_true, Bool.or_eq_true] at h
  have h0 := of_decide_eq_true h.1
  refine ⟨h0, ?_⟩
  rcases h.2 with z | z
  · exact PyProof.noPylong_of_log2 (of_decide_eq_true z)
  · have z := of_decide_eq_true z
    have hj : (j == 0) = false := by simp; omega
    show (decide ((if j == 0 then 0 else j.natAbs.log2 / 30 + 1) > 300) && decide ((if i == 0 then 0 else i.natAbs.log2 / 30 + 1) > (if j == 0 then 0 else j.natAbs.log2 / 30 + 1) + 150)) = false
    rw [hj]
    have e : decide ((if i == 0 then 0 else i.natAbs.log2 / 30 + 1) > (if false = true then 0 else j.natAbs.log2 / 30 + 1) + 150) = false := by
      apply decide_eq_false
      by_cases hi : (i == 0) = true
      · rw [if_pos hi]; simp
      · rw [if_neg hi, if_neg Bool.false_ne_true]; omega
    rw [e, Bool.and_false]
theorem op_fdivA : OpR X (binaryOp .FloorDiv) (rI (fun i j => divOk i j = true) fun i j => .int (i / j)) := opI fun i j _ _ _ _ _ hc q => by
  obtain ⟨h0, hp⟩ := divOk_ok hc
  exact floordiv_int (by omega) (by rw [Int.fdiv_eq_ediv_of_nonneg i (by omega)]; exact q) (.inl hp)
theorem op2_fdiv : Op2 C X (binaryOp .FloorDiv) fdivD := by
  intro op W σ0 pins s σ H x y v u Q I rx ry ⟨ρ, S, d1, d2, r1, r2, h⟩
  cases d1 with
  | int i => cases d2 with
    | int j =>
      cases rep_int (r1.plain rfl); cases rep_int (r2.plain rfl)
      obtain ⟨hz, h⟩ := h.chk
      exact op_fdivA pins s σ H _ _ v u Q I rx ry ⟨i, j, rfl, rfl, hz, fin h (.int _)⟩
    | _ => exact h.err.elim
  | _ => exact h.err.elim
theorem op2_mod : Op2 C X (binaryOp .Mod) modD := by
  intro op W σ0 pins s σ H x y v u Q I rx ry ⟨ρ, S, d1, d2, r1, r2, h⟩
  cases d1 with
  | int i => cases d2 with
    | int j =>
      cases rep_int (r1.plain rfl); cases rep_int (r2.plain rfl)
      obtain ⟨hz, h⟩ := h.chk
      exact op_mod pins s σ H _ _ v u Q I rx ry ⟨i, j, rfl, rfl, of_decide_eq_true hz, fin h (.int _)⟩
    | _ => exact h.err.elim
  | _ => exact h.err.elim
theorem op2_pow : Op2 C X (binaryOp .Pow) powD := by
  intro op W σ0 pins s σ H x y v u Q I rx ry ⟨ρ, S, d1, d2, r1, r2, h⟩
  cases d1 with
  | int i => cases d2 with
    | int j =>
      cases rep_int (r1.plain rfl); cases rep_int (r2.plain rfl)
      obtain ⟨hz, h⟩ := h.chk
      rw [Bool.and_eq_true, Bool.and_eq_true] at hz
      exact op_pow pins s σ H _ _ v u Q I rx ry ⟨i, j, rfl, rfl, ⟨of_decide_eq_true hz.1.1, of_decide_eq_true hz.1.2, of_decide_eq_true hz.2⟩, fin h (.int _)⟩
    | _ => exact h.err.elim
  | _ => exact h.err.elim
theorem op1_neg : Op1 C X (unaryOp .USub) negD := by
  intro op W σ0 pins s σ H x v Q I rx ⟨ρ, S, d1, r1, h⟩
  cases d1 with
  | int i =>
    cases rep_int (r1.plain rfl)
    exact un_neg pins s σ H _ v Q I rx ⟨i, rfl, fin h (.int _)⟩
  | _ => exact h.err.elim
end
end NB

set_option Elab.async false
set_option linter.all false
set_option maxRecDepth 100000
set_option maxHeartbeats 4000000
/-! Snd4: comparisons, membership, truth, products of texts and lists. -/
namespace NB
open PySem PySem.Spec L2
open PyProof.Rows hiding St

/-! ### lists of signs -/
theorem foldl_app (c : Array Nat) : ∀ (k : Nat) (acc : Array Nat), ((List.replicate k c).foldl (· ++ ·) acc).toList = acc.toList ++ (List.replicate k c.toList).flatten
  | 0, acc => by simp
  | k + 1, acc => by
    rw [List.replicate_succ, List.foldl_cons, foldl_app c k, List.replicate_succ, List.flatten_cons, Array.toList_append, List.append_assoc]
theorem mul_eq (a : List Nat) (j : Int) : PySem.Txt.mul ⟨a.toArray⟩ j = ⟨(List.replicate j.toNat a).flatten.toArray⟩ := by
  unfold PySem.Txt.mul
  by_cases h1 : j < 1
  · rw [if_pos h1]
    have e : j.toNat = 0 := by omega
    rw [e] <;> rfl
  · rw [if_neg h1]
    by_cases h2 : (j == 1 || (⟨a.toArray⟩ : PySem.Str).length == 0) = true
    · rw [if_pos h2]
      rw [Bool.or_eq_true] at h2
      rcases h2 with h2 | h2
      · have e : j = 1 := by simpa using h2
        subst e
        simp
      · have e : a = [] := by
          rw [str_len] at h2
          simpa using h2
        subst e
        simp
    · rw [if_neg h2]
      have e := foldl_app a.toArray j.toNat #[]
      simp only [List.nil_append] at e
      have z : ((List.replicate j.toNat a.toArray).foldl (· ++ ·) #[]) = (List.replicate j.toNat a).flatten.toArray := by
        rw [← Array.toList_inj, e]
      exact congrArg PySem.Str.mk z
section
variable {C : Cf} {X : Cx} {ρ : List Addr} {H : Hp}
theorem op_mul_str : OpR X (binaryOp .Mult) (fun x y H Q => ∃ (a : List Nat) (j : Int), x = .str ⟨a.toArray⟩ ∧ y = .int j ∧ -(2 ^ 63) ≤ j ∧ j < 2 ^ 63 ∧ a.length * j.toNat ≤ SZ ∧ Q (.str ⟨(List.replicate j.toNat a).flatten.toArray⟩) H) := by
  intro pins s σ H x y v u Q I rx ry h
  obtain ⟨a, j, rfl, rfl, h1, h2, hz, q⟩ := h
  obtain ⟨t, rfl⟩ := rx
  obtain ⟨t', rfl⟩ := ry
  refine PySem.SB.mul ⟨?_, fun hj _ => ?_, fun hj _ => ?_⟩ fun t' k => ⟨.str _, H, I.tok k, ⟨t', rfl⟩, by rw [mul_eq]; exact q⟩
  · rw [decide_eq_false (by omega), decide_eq_false (by omega)] <;> rfl
  · rw [str_len]
    have hz' : a.length * j.toNat ≤ 16777216 := hz
    intro hlt
    have hj1 : (1 : Int) ≤ j := by omega
    have hle : (a.length : Int) * j ≤ 16777216 := by
      have e : ((a.length * j.toNat : Nat) : Int) = (a.length : Int) * j := by
        rw [Int.natCast_mul, Int.toNat_of_nonneg (by omega)]
      rw [← e]; exact Int.ofNat_le.mpr hz'
    have h3 : (2 ^ 63 - 1) / j * j ≤ 2 ^ 63 - 1 := Int.ediv_mul_le _ (by omega)
    have h4 : ((2 : Int) ^ 63 - 1) / j + 1 ≤ (a.length : Int) := hlt
    have h5 : (((2 : Int) ^ 63 - 1) / j + 1) * j ≤ (a.length : Int) * j := Int.mul_le_mul_of_nonneg_right h4 (by omega)
    have h6 : (2 : Int) ^ 63 - 1 < (((2 : Int) ^ 63 - 1) / j + 1) * j := Int.lt_mul_of_ediv_lt (by omega) (by omega)
    omega
  · rw [str_len]
    show decide (a.length * j.toNat > sizeLine) = false
    rw [← sz_eq]
    exact decide_eq_false (Nat.not_lt.mpr hz)
theorem flat_rep {xs : List D} {vs : List V} (r : RepL C.K ρ H xs vs) : ∀ k : Nat, RepL C.K ρ H (List.replicate k xs).flatten (List.replicate k vs).flatten
  | 0 => .nil
  | k + 1 => by
    rw [List.replicate_succ, List.replicate_succ, List.flatten_cons, List.flatten_cons]
    exact r.append (flat_rep r k)
theorem op2_mul : Op2 C X (binaryOp .Mult) mulD := by
  intro op W σ0 pins s σ H x y v u Q I rx ry ⟨ρ, S, d1, d2, r1, r2, h⟩
  cases d1 with
  | int i => cases d2 with
    | int j =>
      cases rep_int (r1.plain rfl); cases rep_int (r2.plain rfl)
      obtain ⟨hz, h⟩ := h.chk
      exact op_mulA pins s σ H _ _ v u Q I rx ry ⟨i, j, rfl, rfl, hz, fin h (.int _)⟩
    | _ => exact h.err.elim
  | str a => cases d2 with
    | int j =>
      obtain ⟨e1, _⟩ := rep_str (r1.plain rfl)
      subst e1
      cases rep_int (r2.plain rfl)
      obtain ⟨hz, h⟩ := h.chk
      rw [Bool.and_eq_true, Bool.and_eq_true] at hz
      have hl := of_decide_eq_true hz.2
      refine op_mul_str pins s σ H _ _ v u Q I rx ry ⟨a, j, rfl, rfl, of_decide_eq_true hz.1.1, of_decide_eq_true hz.1.2, hl, fin h (.str ?_)⟩
      rw [List.length_flatten, List.map_replicate, List.sum_replicate_nat, Nat.mul_comm]
      exact hl
    | _ => exact h.err.elim
  | loc a => cases d2 with
    | int j =>
      obtain ⟨p1, e1, g1⟩ := rep_loc (r1.plain rfl)
      subst e1
      cases rep_int (r2.plain rfl)
      have hs := h.1
      obtain ⟨hz, h⟩ := h.chk
      rw [Bool.and_eq_true] at hz
      obtain ⟨xs, s1, h⟩ := h.bnd.listW
      obtain ⟨v1, l1, q1⟩ := hs.wAt s1 g1
      obtain ⟨hl, h⟩ := h.chk
      have hl := of_decide_eq_true hl
      exact op_rep pins s σ H _ _ v u Q I rx ry ⟨p1, j, v1, rfl, rfl, l1, of_decide_eq_true hz.1, of_decide_eq_true hz.2, by rw [q1.length, ← sz_eq]; exact hl, fin_new h (flat_rep q1 _)⟩
    | _ => exact h.err.elim
  | _ => exact h.err.elim

/-! ### == -/
theorem eqP_scal {x y : D} {a b : V} {t : Bool} (h : eqP x y = some t) (r1 : RepD C.K ρ H x a) (r2 : RepD C.K ρ H y b) : scal a b = true ∧ decide (a = b) = t := by
  cases x <;> cases y <;> first
    | (cases h; done)
    | (cases r1; cases r2; cases h; exact ⟨rfl, by simp⟩)
    | (cases r1; cases r2; cases h; refine ⟨rfl, ?_⟩; simp)
theorem op2_eq : Op2 C X (compareOp .Eq) eqD := by
  intro op W σ0 pins s σ H x y v u Q I rx ry ⟨ρ, S, d1, d2, r1, r2, h⟩
  unfold eqD at h
  cases e : eqP d1 d2 with
  | none => rw [e] at h; exact h.err.elim
  | some t =>
    rw [e] at h
    have n1 : isExc d1 = false := by cases d1 <;> first | rfl | (cases e; done)
    have n2 : isExc d2 = false := by cases d2 <;> first | rfl | (cases d1 <;> cases e; done)
    obtain ⟨z1, z2⟩ := eqP_scal e (r1.plain n1) (r2.plain n2)
    exact op_eq pins s σ H _ _ v u Q I rx ry ⟨z1, by rw [z2]; exact fin h (.bl _)⟩
theorem op2_ne : Op2 C X (compareOp .NotEq) neD := by
  intro op W σ0 pins s σ H x y v u Q I rx ry ⟨ρ, S, d1, d2, r1, r2, h⟩
  unfold neD at h
  cases e : eqP d1 d2 with
  | none => rw [e] at h; exact h.err.elim
  | some t =>
    rw [e] at h
    have n1 : isExc d1 = false := by cases d1 <;> first | rfl | (cases e; done)
    have n2 : isExc d2 = false := by cases d2 <;> first | rfl | (cases d1 <;> cases e; done)
    obtain ⟨z1, z2⟩ := eqP_scal e (r1.plain n1) (r2.plain n2)
    exact op_ne pins s σ H _ _ v u Q I rx ry ⟨z1, by rw [z2]; exact fin h (.bl _)⟩
/-- two ints, a bool -/
theorem op2_ints {o : CmpOp} {g : Int → Int → Bool} {k : D → D → M D} (ho : OpR X (compareOp o) (rI0 fun i j => .bl (g i j))) (h1 : ∀ i j, k (.int i) (.int j) = ret (.bl (g i j))) (h2 : ∀ x y, (∀ i j, x = .int i → y = .int j → False) → k x y = err) : Op2 C X (compareOp o) k := by
  intro op W σ0 pins s σ H x y v u Q I rx ry ⟨ρ, S, d1, d2, r1, r2, h⟩
  by_cases hi : ∃ i j, d1 = .int i ∧ d2 = .int j
  · obtain ⟨i, j, rfl, rfl⟩ := hi
    cases rep_int (r1.plain rfl); cases rep_int (r2.plain rfl)
    rw [h1] at h
    exact ho pins s σ H _ _ v u Q I rx ry ⟨i, j, rfl, rfl, fin h (.bl _)⟩
  · rw [h2 d1 d2 fun i j a b => hi ⟨i, j, a, b⟩] at h
    exact h.err.elim
theorem op2_lt : Op2 C X (compareOp .Lt) ltD := op2_ints op_lt (fun _ _ => rfl) fun x y h => by cases x <;> cases y <;> first | rfl | exact (h _ _ rfl rfl).elim
theorem op2_le : Op2 C X (compareOp .LtE) leD := op2_ints op_le (fun _ _ => rfl) fun x y h => by cases x <;> cases y <;> first | rfl | exact (h _ _ rfl rfl).elim
theorem op2_gt : Op2 C X (compareOp .Gt) gtD := op2_ints op_gt (fun _ _ => rfl) fun x y h => by cases x <;> cases y <;> first | rfl | exact (h _ _ rfl rfl).elim
theorem op2_ge : Op2 C X (compareOp .GtE) geD := op2_ints op_ge (fun _ _ => rfl) fun x y h => by cases x <;> cases y <;> first | rfl | exact (h _ _ rfl rfl).elim

/-! ### in -/
theorem infix_iff (x : List Nat) : ∀ ys : List Nat, infixB x ys = true ↔ ∃ i, i + x.length ≤ ys.length ∧ (ys.drop i).take x.length = x
  | [] => by
    cases x with
    | nil => exact ⟨fun _ => ⟨0, Nat.le_refl _, rfl⟩, fun _ => rfl⟩
    | cons a x =>
      constructor
      · intro h; exact absurd (show false = true from h) (by decide)
      · rintro ⟨i, h, _⟩; simp at h
  | y :: ys => by
    have ih := infix_iff x ys
    have hp : x.isPrefixOf (y :: ys) = true ↔ (y :: ys).take x.length = x := by
      rw [List.isPrefixOf_iff_prefix, List.prefix_iff_eq_take]
      exact ⟨fun h => h.symm, fun h => h.symm⟩
    show (x.isPrefixOf (y :: ys) || infixB x ys) = true ↔ _
    rw [Bool.or_eq_true, hp, ih]
    constructor
    · rintro (h | ⟨i, h1, h2⟩)
      · refine ⟨0, ?_, h⟩
        have e := congrArg List.length h
        rw [List.length_take] at e
        omega
      · exact ⟨i + 1, by rw [List.length_cons]; omega, h2⟩
    · rintro ⟨i, h1, h2⟩
      cases i with
      | zero => exact .inl h2
      | succ i => exact .inr ⟨i, by rw [List.length_cons] at h1; omega, h2⟩
theorem in_occ (a b : List Nat) : (!(Builtin.Str.occurrences ⟨b.toArray⟩ ⟨a.toArray⟩ 0 (⟨b.toArray⟩ : PySem.Str).length 1).isEmpty) = infixB a b := by
  rw [Bool.eq_iff_iff, PySem.StrLaws.found_iff, infix_iff]
  simp only [str_len]
  constructor
  · rintro ⟨i, h1, h2⟩
    refine ⟨i, h1, ?_⟩
    rw [PySem.StrLaws.subAt_eq, str_len] at h2
    exact eq_of_beq h2
  · rintro ⟨i, h1, h2⟩
    refine ⟨i, h1, ?_⟩
    rw [PySem.StrLaws.subAt_eq, str_len]
    exact beq_iff_eq.mpr h2
theorem flat_of {d : D} {v : V} (h : flatD d = true) (r : RepD C.K ρ H d v) : flatV v = true := by
  cases d <;> first
    | (cases h; done)
    | (cases r; rfl)
theorem flats_of : ∀ {ds : List D} {vs : List V}, ds.all flatD = true → RepL C.K ρ H ds vs → vs.all flatV = true
  | _, _, _, .nil => rfl
  | _, _, h, .cons r t => by
    rw [List.all_cons, Bool.and_eq_true] at h
    rw [List.all_cons, flat_of h.1 r, flats_of h.2 t] <;> rfl
theorem eqF_of {x y : D} {a b : V} (hx : flatD x = true) (hy : flatD y = true) (r1 : RepD C.K ρ H x a) (r2 : RepD C.K ρ H y b) : eqV a b = eqF x y := by
  cases x <;> cases y <;> first
    | (cases hx; done)
    | (cases hy; done)
    | (cases r1; cases r2; rfl)
    | (cases r1; cases r2; rename_i h1 h2; show (_ == _) = (_ == _); rw [Bool.eq_iff_iff]; simp)
    | (cases r1; cases r2; simp [eqV, eqF])
theorem inV_of {x : D} {a : V} (hx : flatD x = true) (r : RepD C.K ρ H x a) : ∀ {ds : List D} {vs : List V}, ds.all flatD = true → RepL C.K ρ H ds vs → inV a vs = ds.any fun y => eqF y x
  | _, _, _, .nil => rfl
  | _, _, h, .cons q t => by
    rw [List.all_cons, Bool.and_eq_true] at h
    have ih := inV_of hx r h.2 t
    unfold inV at ih ⊢
    rw [List.any_cons, List.any_cons, ih, eqF_of h.1 hx q r]
/-- what is asked by in -/
theorem inB_at {op : Hot} {W : WX} {σ0 : L2.St} {S : Store} {d1 d2 : D} {x y : V} {R : Bool → Store → List Addr → Hp → Prop} (hK : X.K = C.K) (r1 : RepV C op ρ H d1 x) (r2 : RepV C op ρ H d2 y) (h : At C W σ0 ρ H S (inB d1 d2) R) :
    ∃ b, R b S ρ H ∧ ((∃ i j, x = .str i ∧ y = .str j ∧ (!(Builtin.Str.occurrences j i 0 j.length 1).isEmpty) = b) ∨ ∃ p xs, y = .ref p ∧ (SqL X.K H p xs ∨ SqT X.K H p xs) ∧ flatV x = true ∧ xs.all flatV = true ∧ inV x xs = b) := by
  have hseq : ∀ {d2 : D} {y : V}, RepV C op ρ H d2 y → (∀ a b, d1 = .str a → d2 = .str b → False) → At C W σ0 ρ H S (bnd (seqOf d2) fun xs => match inL d1 xs with | some b => ret b | none => err) R →
      ∃ b, R b S ρ H ∧ ∃ p xs, y = .ref p ∧ (SqL X.K H p xs ∨ SqT X.K H p xs) ∧ flatV x = true ∧ xs.all flatV = true ∧ inV x xs = b := by
    intro d2 y r2 _ h
    have fin2 : ∀ {xs : List D} {vs : List V}, RepL C.K ρ H xs vs → At C W σ0 ρ H S (match inL d1 xs with | some b => ret b | none => err) R → ∃ b, R b S ρ H ∧ flatV x = true ∧ vs.all flatV = true ∧ inV x vs = b := by
      intro xs vs q h
      unfold inL at h
      cases z : (flatD d1 && xs.all flatD) with
      | false => rw [z] at h; exact h.err.elim
      | true =>
        rw [z] at h
        rw [Bool.and_eq_true] at z
        have n1 : isExc d1 = false := by cases d1 <;> first | rfl | (exact absurd (show false = true from z.1) Bool.false_ne_true)
        exact ⟨_, h.ret, flat_of z.1 (r1.plain n1), flats_of z.2 q, inV_of z.1 (r1.plain n1) z.2 q⟩
    cases d2 with
    | tup xs =>
      obtain ⟨a, vs, rfl, t, q⟩ := rep_tup (r2.plain rfl)
      obtain ⟨b, h1, h2, h3, h4⟩ := fin2 q h
      exact ⟨b, h1, a, vs, rfl, .inr (by rw [hK]; exact t), h2, h3, h4⟩
    | loc n =>
      obtain ⟨a, rfl, g⟩ := rep_loc (r2.plain rfl)
      have hs := h.1
      obtain ⟨w, xs, e, h⟩ := (show At C W σ0 ρ H S (bnd (listAt n) fun xs => match inL d1 xs with | some b => ret b | none => err) R from h).bnd.listAt
      obtain ⟨vs, l, q⟩ := hs.seqAt e g
      obtain ⟨b, h1, h2, h3, h4⟩ := fin2 q h
      exact ⟨b, h1, a, vs, rfl, .inl (by rw [hK]; exact l), h2, h3, h4⟩
    | _ => exact h.err.elim
  by_cases hs : ∃ a b, d1 = .str a ∧ d2 = .str b
  · obtain ⟨a, b, rfl, rfl⟩ := hs
    obtain ⟨e1, _⟩ := rep_str (r1.plain rfl); obtain ⟨e2, _⟩ := rep_str (r2.plain rfl)
    subst e1 e2
    exact ⟨_, h.ret, .inl ⟨_, _, rfl, rfl, in_occ a b⟩⟩
  · have e : inB d1 d2 = bnd (seqOf d2) fun xs => match inL d1 xs with | some b => ret b | none => err := by
      cases d1 <;> cases d2 <;> first
        | rfl
        | exact absurd ⟨_, _, rfl, rfl⟩ hs
    rw [e] at h
    obtain ⟨b, h1, h2⟩ := hseq r2 (fun a b p q => hs ⟨a, b, p, q⟩) h
    exact ⟨b, h1, .inr h2⟩
theorem op2_in (hK : X.K = C.K) : Op2 C X (compareOp .In) inD := by
  intro op W σ0 pins s σ H x y v u Q I rx ry ⟨ρ, S, d1, d2, r1, r2, h⟩
  obtain ⟨b, q, h⟩ := inB_at hK r1 r2 (show At C W σ0 ρ H S (bnd (inB d1 d2) fun b => ret (D.bl b)) (fun d _ ρ' H' => ∀ v, RepV C op ρ' H' d v → Q v H') from h).bnd
  have q := fin q (.bl b)
  rcases h with ⟨i, j, rfl, rfl, e⟩ | ⟨p, xs, rfl, h1, h2, h3, e⟩
  · exact op_in_str pins s σ H _ _ v u Q I rx ry ⟨i, j, rfl, rfl, by rw [e]; exact q⟩
  · exact op_in_seq pins s σ H _ _ v u Q I rx ry ⟨p, xs, rfl, h1, h2, h3, by rw [if_neg Bool.false_ne_true, e]; exact q⟩
theorem op2_nin (hK : X.K = C.K) : Op2 C X (compareOp .NotIn) ninD := by
  intro op W σ0 pins s σ H x y v u Q I rx ry ⟨ρ, S, d1, d2, r1, r2, h⟩
  obtain ⟨b, q, h⟩ := inB_at hK r1 r2 (show At C W σ0 ρ H S (bnd (inB d1 d2) fun b => ret (D.bl (!b))) (fun d _ ρ' H' => ∀ v, RepV C op ρ' H' d v → Q v H') from h).bnd
  have q := fin q (.bl (!b))
  rcases h with ⟨i, j, rfl, rfl, e⟩ | ⟨p, xs, rfl, h1, h2, h3, e⟩
  · exact op_notIn_str pins s σ H _ _ v u Q I rx ry ⟨i, j, rfl, rfl, by rw [e]; exact q⟩
  · exact op_notIn_seq pins s σ H _ _ v u Q I rx ry ⟨p, xs, rfl, h1, h2, h3, by rw [if_pos rfl, e]; exact q⟩
end
end NB

set_option Elab.async false
set_option linter.all false
set_option maxRecDepth 100000
set_option maxHeartbeats 4000000
/-! Snd5: truth, tests, displays, subscripts, slices, calls of built-ins. -/
namespace NB
open PySem PySem.Spec L2
open PyProof.Rows hiding St

section
variable {C : Cf} {op : Hot} {W : WX} {X : Cx} {e a b c : Expr} {es rest : List Expr} {m ma mb mc : EE} {ms : AA} {t ta tb : TT} {pos : Pos} {ρ : List Addr} {H : Hp} {S : Store} {σ : L2.St}

/-! ### truth -/
theorem isEmpty_rep {xs : List D} {vs : List V} (q : RepL C.K ρ H xs vs) : vs.isEmpty = xs.isEmpty := by cases q <;> rfl
theorem tru_at {d : D} {x : V} {R : Bool → Store → List Addr → Hp → Prop} (hK : X.K = C.K) (r : RepV C op ρ H d x) (h : At C W σ ρ H S (truth d) R) : ∃ k, TruV X.K x H k ∧ R k S ρ H := by
  cases d with
  | non => cases rep_non (r.plain rfl); exact ⟨false, rfl, h.ret⟩
  | bl k => cases rep_bl (r.plain rfl); exact ⟨k, rfl, h.ret⟩
  | int i => cases rep_int (r.plain rfl); exact ⟨_, rfl, h.ret⟩
  | str s =>
    obtain ⟨e, hz⟩ := rep_str (r.plain rfl)
    subst e
    refine ⟨_, ⟨by rw [str_len, ← sz_eq]; exact hz, ?_⟩, h.ret⟩
    rw [str_len]
    cases s with
    | nil => rfl
    | cons a s =>
      have z : ((((a :: s).length : Nat) : Int) != 0) = true := by
        rw [bne_iff_ne]
        simp
        omega
      rw [z] <;> rfl
  | tup xs =>
    obtain ⟨a, vs, rfl, t, q⟩ := rep_tup (r.plain rfl)
    exact ⟨_, .inr (.inl ⟨vs, by rw [hK]; exact t, by rw [isEmpty_rep q]⟩), h.ret⟩
  | loc n =>
    obtain ⟨a, rfl, g⟩ := rep_loc (r.plain rfl)
    obtain ⟨hs, h⟩ := h
    unfold Wp truth at h
    dsimp only at h
    cases e : S[n]? with
    | none => rw [e] at h; exact h.elim
    | some o =>
      rw [e] at h
      cases o with
      | lst w xs =>
        obtain ⟨vs, l, q⟩ := hs.seqAt e g
        exact ⟨_, .inl ⟨vs, by rw [hK]; exact l, by rw [isEmpty_rep q]⟩, h ρ H .refl hs⟩
      | dic kvs => exact (hs.obj n _ a e g).elim
      | ins c fs => exact h.elim
  | kl xs => exact h.err.elim
  | exc c fs => exact h.err.elim
def plainTest : Expr → Bool
  | .UnaryOp .Not _ _ => false
  | .BoolOp _ _ _ => false
  | .IfExp _ _ _ _ => false
  | .Compare _ _ _ _ => false
  | _ => true
theorem isTrue_any (h : plainTest e = true) (env : PySem.Env) (whole : Sem Value) : isTrue e env whole = (do let v ← whole; standAt e.pos; holding [v] (truthy v)) := by
  cases e with
  | UnaryOp o x p => cases o <;> first | rfl | cases h
  | BoolOp o x p => cases h
  | IfExp x y z p => cases h
  | Compare x y z p => cases h
  | _ => rfl
theorem gt_val (hK : X.K = C.K) (ha : PE X a (tE C op W ma)) (hp : plainTest a = true) : PT X a (tT C op W (valT ma)) := by
  refine pt_imp (pt_truth ha fun whole => isTrue_any hp _ whole) fun σ H Q ⟨ρ, S, δ, en, h⟩ => ?_
  exact ⟨ρ, S, δ, en, h.bnd.imp fun d1 S1 ρ1 H1 l1 s1 h1 x r1 => tru_at hK r1 h1⟩
theorem gt_not (ha : PT X a (tT C op W ta)) : PT X (.UnaryOp .Not a pos) (tT C op W (notT ta)) :=
  pt_imp (pt_not ha) fun σ H Q ⟨ρ, S, δ, en, h⟩ => ⟨ρ, S, δ, en, h.bnd.imp fun c S1 ρ1 H1 l1 s1 h1 => h1.ret⟩
theorem gw_one_and (ha : PT X a (tT C op W ta)) : PW X (.BoolOp .And [a] pos) (tT C op W ta) := pw_and1 ha
theorem gw_one_or (ha : PT X a (tT C op W ta)) : PW X (.BoolOp .Or [a] pos) (tT C op W ta) := pw_or1 ha
theorem pw_imp {e : Expr} {t t' : L2.TT} (h : PW X e t) (f : ∀ σ H Q, t' σ H Q → t σ H Q) : PW X e t' := ⟨fun whole pins s σ H Q I q => h.run whole pins s σ H Q I (f σ H Q q)⟩
theorem gw_and (ha : PT X a (tT C op W ta)) (hb : PW X (.BoolOp .And (b :: rest) pos) (tT C op W tb)) : PW X (.BoolOp .And (a :: b :: rest) pos) (tT C op W (andT ta tb)) := by
  refine pw_imp (pw_and ha hb) fun σ H Q ⟨ρ, S, δ, en, h⟩ => ⟨ρ, S, δ, en, h.bnd.imp fun c S1 ρ1 H1 l1 s1 h1 => ?_⟩
  cases c with
  | true => exact ⟨ρ1, S1, δ, en.mono l1, h1⟩
  | false => exact h1.ret
theorem gw_or (ha : PT X a (tT C op W ta)) (hb : PW X (.BoolOp .Or (b :: rest) pos) (tT C op W tb)) : PW X (.BoolOp .Or (a :: b :: rest) pos) (tT C op W (orT ta tb)) := by
  refine pw_imp (pw_or ha hb) fun σ H Q ⟨ρ, S, δ, en, h⟩ => ⟨ρ, S, δ, en, h.bnd.imp fun c S1 ρ1 H1 l1 s1 h1 => ?_⟩
  cases c with
  | false => exact ⟨ρ1, S1, δ, en.mono l1, h1⟩
  | true => exact h1.ret
/-! ### and, or, not, if as values -/
theorem ge_one {o : BoolOp} (ha : PE X a (tE C op W ma)) : PE X (.BoolOp o [a] pos) (tE C op W ma) := pe_one ha
theorem ge_and (hK : X.K = C.K) (ha : PE X a (tE C op W ma)) (hb : PE X (.BoolOp .And (b :: rest) pos) (tE C op W mb)) : PE X (.BoolOp .And (a :: b :: rest) pos) (tE C op W (andE ma mb)) := by
  refine pe_imp (pe_andT ha hb) fun σ H Q ⟨ρ, S, δ, en, h⟩ => ⟨ρ, S, δ, en, h.bnd.imp fun d S1 ρ1 H1 l1 s1 h1 x r1 => ?_⟩
  obtain ⟨k, e, q⟩ := tru_at hK r1 h1.bnd
  refine ⟨k, e, ?_⟩
  cases k with
  | true => exact ⟨ρ1, S1, δ, en.mono l1, q⟩
  | false => exact q.ret _ r1
theorem ge_or (hK : X.K = C.K) (ha : PE X a (tE C op W ma)) (hb : PE X (.BoolOp .Or (b :: rest) pos) (tE C op W mb)) : PE X (.BoolOp .Or (a :: b :: rest) pos) (tE C op W (orE ma mb)) := by
  refine pe_imp (pe_orT ha hb) fun σ H Q ⟨ρ, S, δ, en, h⟩ => ⟨ρ, S, δ, en, h.bnd.imp fun d S1 ρ1 H1 l1 s1 h1 x r1 => ?_⟩
  obtain ⟨k, e, q⟩ := tru_at hK r1 h1.bnd
  refine ⟨k, e, ?_⟩
  cases k with
  | false => exact ⟨ρ1, S1, δ, en.mono l1, q⟩
  | true => exact q.ret _ r1
theorem ge_not (hK : X.K = C.K) (ha : PE X a (tE C op W ma)) : PE X (.UnaryOp .Not a pos) (tE C op W (notE ma)) := by
  refine pe_imp (pe_notT ha) fun σ H Q ⟨ρ, S, δ, en, h⟩ => ⟨ρ, S, δ, en, h.bnd.imp fun d S1 ρ1 H1 l1 s1 h1 x r1 => ?_⟩
  obtain ⟨k, e, q⟩ := tru_at hK r1 h1.bnd
  exact ⟨k, e, q.ret _ (.inl (.bl _))⟩
theorem ge_ite (hc : PT X c (tT C op W t)) (ha : PE X a (tE C op W ma)) (hb : PE X b (tE C op W mb)) : PE X (.IfExp c a b pos) (tE C op W (iteE t ma mb)) := by
  refine pe_imp (pe_ifExp hc ha hb) fun σ H Q ⟨ρ, S, δ, en, h⟩ => ⟨ρ, S, δ, en, h.bnd.imp fun k S1 ρ1 H1 l1 s1 h1 => ?_⟩
  cases k with
  | true => exact ⟨ρ1, S1, δ, en.mono l1, h1⟩
  | false => exact ⟨ρ1, S1, δ, en.mono l1, h1⟩
theorem ge_chain {o o' : CmpOp} {k k' : D → D → M D} (ho : Op2 C X (compareOp o) k) (ho' : Op2 C X (compareOp o') k') (ha : PE X a (tE C op W ma)) (hb : PE X b (tE C op W mb)) (hc : PE X c (tE C op W mc)) (hm : lastMarks [o, o'] [b, c] = false) :
    PE X (.Compare a [o, o'] [b, c] pos) (tE C op W (chainE k k' ma mb mc)) := by
  refine ⟨fun pins s σ H Q I h => ?_⟩
  refine (pe_chain (pos := pos) (ho op W σ) (ho' op W σ) ha hb hc hm).run pins s σ H Q I ?_
  obtain ⟨ρ, S, δ, en, h⟩ := h
  refine ⟨ρ, S, δ, en, h.bnd.imp fun d1 S1 ρ1 H1 l1 s1 h1 x r1 => ?_⟩
  refine ⟨ρ1, S1, δ, en.mono l1, h1.bnd.imp fun d2 S2 ρ2 H2 l2 s2 h2 y r2 => ?_⟩
  refine ⟨ρ2, S2, d1, d2, r1.mono l2, r2, h2.bnd.imp fun d3 S3 ρ3 H3 l3 s3 h3 z r3 => ?_⟩
  cases d3 with
  | bl k =>
    cases rep_bl (r3.plain rfl)
    refine ⟨k, rfl, ?_⟩
    cases k with
    | true =>
      exact ⟨ρ3, S3, δ, (en.mono l1).mono (l2.trans l3), h3.bnd.imp fun d4 S4 ρ4 H4 l4 s4 h4 w r4 => ⟨ρ4, S4, d2, d4, r2.mono (l3.trans l4), r4, h4⟩⟩
    | false => exact h3.ret _ (.inl (.bl false))
  | _ => exact h3.err.elim
/-! ### argument lists, displays -/
def notStar : Expr → Bool
  | .Starred _ _ => false
  | _ => true
theorem star_cons (h : notStar e = true) (es : List Expr) (env : PySem.Env) : starEach (e :: es) env = (false, eval e env) :: starEach es env := by
  cases e <;> first | rfl | cases h
theorem star_all : ∀ {es : List Expr} (h : es.all notStar = true) (env : PySem.Env) (p : Pos), (backTo p (starEach es env)).any (·.1) = false
  | [], _, _, _ => rfl
  | e :: es, h, env, p => by
    rw [List.all_cons, Bool.and_eq_true] at h
    rw [star_cons h.1]
    show (false || (backTo p (starEach es env)).any (·.1)) = false
    rw [star_all h.2] <;> rfl
theorem ga_nil : PA X [] (tA C op W nilA) := pa_imp pa_nil fun σ H Q ⟨ρ, S, δ, en, h⟩ => h.ret [] trivial
theorem ga_cons (hs : notStar e = true) (ha : PE X e (tE C op W m)) (hr : PA X es (tA C op W ms)) : PA X (e :: es) (tA C op W (consA m ms)) := by
  refine pa_imp (pa_cons ha hr (star_cons hs es _)) fun σ H Q ⟨ρ, S, δ, en, h⟩ => ?_
  refine ⟨ρ, S, δ, en, h.bnd.imp fun d S1 ρ1 H1 l1 s1 h1 x r1 => ?_⟩
  exact ⟨ρ1, S1, δ, en.mono l1, h1.bnd.imp fun ds S2 ρ2 H2 l2 s2 h2 xs r2 => h2.ret (x :: xs) ⟨r1.mono l2, r2⟩⟩
theorem ge_tup {k : Nat} (ha : PA X es (tA C op W ms)) : PE X (.Tuple es k pos) (tE C op W (opnE mkTup ms)) := by
  refine pe_imp (pe_tup ha) fun σ H Q ⟨ρ, S, δ, en, h⟩ => ⟨ρ, S, δ, en, h.bnd.imp fun ds S1 ρ1 H1 l1 s1 h1 xs r1 => ?_⟩
  obtain ⟨hz, h2⟩ := (show At C W σ ρ1 H1 S1 (bif noExc ds && decide (ds.length ≤ SZ) then ret (D.tup ds) else err) (fun d _ ρ' H' => ∀ v, RepV C op ρ' H' d v → Q v H') from h1).chk
  rw [Bool.and_eq_true] at hz
  have q := r1.plain hz.1
  refine ⟨by rw [q.length, ← sz_eq]; exact of_decide_eq_true hz.2, fun p hp => fin_tup h2 q p hp⟩
theorem ge_lst (ha : PA X es (tA C op W ms)) : PE X (.List es pos) (tE C op W (opnE newL ms)) := by
  refine pe_imp (pe_lst ha) fun σ H Q ⟨ρ, S, δ, en, h⟩ => ⟨ρ, S, δ, en, h.bnd.imp fun ds S1 ρ1 H1 l1 s1 h1 xs r1 => ?_⟩
  obtain ⟨hn, hz, _⟩ := h1.newL
  have q := r1.plain hn
  exact ⟨by rw [q.length]; exact hz, fun p hp => fin_new h1 q p hp⟩

/-! ### subscripts -/
def plainIx : Expr → Bool
  | .Slice _ _ _ _ => false
  | _ => true
theorem plainIx_ok (h : plainIx b = true) : PlainIx b := by
  cases b <;> first
    | (intro o i; rfl)
    | cases h
theorem atL_at {α : Type} {xs : List α} {i : Int} {R : α → Store → List Addr → Hp → Prop} (h : At C W σ ρ H S (atL xs i) R) : ∃ d, atI xs i = some d ∧ R d S ρ H := by
  unfold atL at h
  unfold atI
  have e0 : ixN xs.length i = ixOf i xs.length := rfl
  rw [e0]
  cases e : ixOf i xs.length with
  | none => rw [e] at h; exact h.err.elim
  | some k =>
    rw [e] at h
    dsimp only at h
    cases e2 : xs[k]? with
    | none => rw [e2] at h; exact h.err.elim
    | some d => rw [e2] at h; exact ⟨d, e2, h.ret⟩
theorem atI_rep {xs : List D} {vs : List V} {i : Int} {d : D} (q : RepL C.K ρ H xs vs) (h : atI xs i = some d) : ∃ v, atI vs i = some v ∧ RepD C.K ρ H d v := by
  unfold atI at h ⊢
  rw [q.length]
  cases e : ixN xs.length i with
  | none => rw [e] at h; cases h
  | some k =>
    rw [e] at h
    exact q.get (i := k) h
theorem ge_sub (hK : X.K = C.K) (ha : PE X a (tE C op W ma)) (hb : PE X b (tE C op W mb)) (hs : plainIx b = true) : PE X (.Subscript a b pos) (tE C op W (op2E subsD ma mb)) := by
  refine ⟨fun pins s σ H Q I h => ?_⟩
  refine (pe_ix (pos := pos) ix_seq ha hb (plainIx_ok hs)).run pins s σ H Q I (two h fun x y H2 ρ S d1 d2 r1 r2 q => ?_)
  cases d1 with
  | str z => cases d2 with
    | int i =>
      obtain ⟨e1, hz⟩ := rep_str (r1.plain rfl)
      subst e1
      cases rep_int (r2.plain rfl)
      obtain ⟨c, e, h⟩ := atL_at (show At C W σ ρ H2 S (bnd (atL z i) fun c => ret (D.str [c])) (fun d _ ρ' H' => ∀ v, RepV C op ρ' H' d v → Q v H') from q).bnd
      exact .inr (.inr ⟨_, i, c, rfl, rfl, by rw [str_len, ← sz_eq]; exact hz, e, NB.fin h (.str (by show 1 ≤ 16777216; omega))⟩)
    | _ => exact q.err.elim
  | tup xs => cases d2 with
    | int i =>
      obtain ⟨p, vs, rfl, t, q1⟩ := rep_tup (r1.plain rfl)
      cases rep_int (r2.plain rfl)
      obtain ⟨d, e, h⟩ := atL_at q
      obtain ⟨v, e2, r⟩ := atI_rep q1 e
      exact .inr (.inl ⟨p, vs, i, v, rfl, rfl, by rw [hK]; exact t, e2, h v (.inl r)⟩)
    | _ => exact q.err.elim
  | kl xs => cases d2 with
    | int i =>
      obtain ⟨p, vs, rfl, t, q1⟩ := rep_kl (r1.plain rfl)
      cases rep_int (r2.plain rfl)
      obtain ⟨d, e, h⟩ := atL_at q
      obtain ⟨v, e2, r⟩ := atI_rep q1 e
      exact .inl ⟨p, vs, i, v, rfl, rfl, by rw [hK]; exact t.sql, e2, h v (.inl r)⟩
    | _ => exact q.err.elim
  | loc n => cases d2 with
    | int i =>
      obtain ⟨p, rfl, g⟩ := rep_loc (r1.plain rfl)
      cases rep_int (r2.plain rfl)
      have hs := q.1
      obtain ⟨w, xs, e0, q⟩ := (show At C W σ ρ H2 S (bnd (listAt n) fun xs => atL xs i) (fun d _ ρ' H' => ∀ v, RepV C op ρ' H' d v → Q v H') from q).bnd.listAt
      obtain ⟨vs, l, q1⟩ := hs.seqAt e0 g
      obtain ⟨d, e, h⟩ := atL_at q
      obtain ⟨v, e2, r⟩ := atI_rep q1 e
      exact .inl ⟨p, vs, i, v, rfl, rfl, by rw [hK]; exact l, e2, h v (.inl r)⟩
    | _ => exact q.err.elim
  | _ => exact q.err.elim
/-! ### slices -/
theorem sl_any : SlR X (fun x lo hi H Q => rSlS x lo hi H Q ∨ rSlA X.K x lo hi H Q ∨ rSlL X.K x lo hi H Q) := sl_str.or (sl_tupA.or sl_list)
theorem cut_rep {xs : List D} {vs : List V} (lo hi : Option Int) (q : RepL C.K ρ H xs vs) : RepL C.K ρ H (cutL xs lo hi) (cutV vs lo hi) := by
  unfold cutL cutV
  rw [q.length]
  exact (q.drop _).take _
theorem cutL_le {α : Type} (xs : List α) (lo hi : Option Int) : (cutL xs lo hi).length ≤ xs.length := by
  unfold cutL
  rw [List.length_take, List.length_drop]
  omega
theorem cutS_eq (z : List Nat) (lo hi : Option Int) : cutS ⟨z.toArray⟩ lo hi = ⟨(cutL z lo hi).toArray⟩ := by
  unfold cutS
  rw [str_len] <;> rfl
theorem slice_at {op : Hot} {d : D} {x : V} {lo hi : Option Int} {lo' hi' : Option D} {Q : VK} (hK : X.K = C.K) (r : RepV C op ρ H d x) (e1 : optI lo' = some lo) (e2 : optI hi' = some hi) (h : At C W σ ρ H S (sliceD d lo' hi') fun d _ ρ' H' => ∀ v, RepV C op ρ' H' d v → Q v H') :
    rSlS x lo hi H Q ∨ rSlA X.K x lo hi H Q ∨ rSlL X.K x lo hi H Q := by
  unfold sliceD at h
  rw [e1, e2] at h
  cases d with
  | str z =>
    obtain ⟨e, hz⟩ := rep_str (r.plain rfl)
    subst e
    refine .inl ⟨_, rfl, by rw [str_len, ← sz_eq]; exact hz, ?_⟩
    rw [cutS_eq]
    exact NB.fin h (.str (Nat.le_trans (cutL_le _ _ _) hz))
  | tup xs =>
    obtain ⟨p, vs, rfl, t, q⟩ := rep_tup (r.plain rfl)
    refine .inr (.inl ⟨p, vs, rfl, by rw [hK]; exact t, fun ⟨z1, z2⟩ => ?_, fun _ => fin_tup h (cut_rep lo hi q)⟩)
    have e : cutL xs lo hi = xs := by
      rw [q.length] at z1 z2
      unfold cutL
      have z1' : cutAt xs.length 0 lo = 0 := z1
      have z2' : cutAt xs.length xs.length hi = xs.length := z2
      rw [z1', z2', List.drop_zero, Nat.sub_zero, List.take_length]
    have h' : At C W σ ρ H S (ret (D.tup xs)) (fun d _ ρ' H' => ∀ v, RepV C op ρ' H' d v → Q v H') := by rw [← e]; exact h
    exact NB.fin h' (.tup t q)
  | loc n =>
    obtain ⟨p, rfl, g⟩ := rep_loc (r.plain rfl)
    have hs := h.1
    obtain ⟨w, xs, e0, h⟩ := (show At C W σ ρ H S (bnd (listAt n) fun xs => newL (cutL xs lo hi)) (fun d _ ρ' H' => ∀ v, RepV C op ρ' H' d v → Q v H') from h).bnd.listAt
    obtain ⟨vs, l, q⟩ := hs.seqAt e0 g
    exact .inr (.inr ⟨p, vs, rfl, by rw [hK]; exact l, fin_new h (cut_rep lo hi q)⟩)
  | _ => exact h.err.elim
theorem chkI_at {d : D} {v : V} {R : D → Store → List Addr → Hp → Prop} (r : RepV C op ρ H d v) (h : At C W σ ρ H S (chkI d) R) : ∃ i, v = .int i ∧ R (.int i) S ρ H := by
  cases d with
  | int i => cases rep_int (r.plain rfl); exact ⟨i, rfl, h.ret⟩
  | _ => exact h.err.elim
theorem ge_slice00 {p2 : Pos} (hK : X.K = C.K) (ha : PE X a (tE C op W ma)) : PE X (.Subscript a (.Slice none none none p2) pos) (tE C op W (sliceE ma none none)) :=
  pe_imp (pe_slice sl_any ha po_none po_none) fun σ H Q ⟨ρ, S, δ, en, h⟩ => ⟨ρ, S, δ, en, h.bnd.imp fun d S1 ρ1 H1 l1 s1 h1 x r1 => slice_at hK r1 rfl rfl h1⟩
theorem ge_slice10 {p2 : Pos} (hK : X.K = C.K) (ha : PE X a (tE C op W ma)) (hb : PE X b (tE C op W mb)) : PE X (.Subscript a (.Slice (some b) none none p2) pos) (tE C op W (sliceE ma (some mb) none)) := by
  refine pe_imp (pe_slice sl_any ha (po_some hb) po_none) fun σ H Q ⟨ρ, S, δ, en, h⟩ => ⟨ρ, S, δ, en, h.bnd.imp fun d S1 ρ1 H1 l1 s1 h1 x r1 => ?_⟩
  refine ⟨ρ1, S1, δ, en.mono l1, h1.bnd.imp fun d2 S2 ρ2 H2 l2 s2 h2 y r2 => ?_⟩
  obtain ⟨i, e1, h2⟩ := chkI_at r2 h2.bnd
  exact ⟨i, e1, slice_at hK (r1.mono l2) rfl rfl h2⟩
theorem ge_slice01 {p2 : Pos} (hK : X.K = C.K) (ha : PE X a (tE C op W ma)) (hb : PE X b (tE C op W mb)) : PE X (.Subscript a (.Slice none (some b) none p2) pos) (tE C op W (sliceE ma none (some mb))) := by
  refine pe_imp (pe_slice sl_any ha po_none (po_some hb)) fun σ H Q ⟨ρ, S, δ, en, h⟩ => ⟨ρ, S, δ, en, h.bnd.imp fun d S1 ρ1 H1 l1 s1 h1 x r1 => ?_⟩
  refine ⟨ρ1, S1, δ, en.mono l1, h1.bnd.imp fun d2 S2 ρ2 H2 l2 s2 h2 y r2 => ?_⟩
  obtain ⟨i, e1, h2⟩ := chkI_at r2 h2.bnd
  exact ⟨i, e1, slice_at hK (r1.mono l2) rfl rfl h2⟩
theorem ge_slice11 {p2 : Pos} (hK : X.K = C.K) (ha : PE X a (tE C op W ma)) (hb : PE X b (tE C op W mb)) (hc : PE X c (tE C op W mc)) : PE X (.Subscript a (.Slice (some b) (some c) none p2) pos) (tE C op W (sliceE ma (some mb) (some mc))) := by
  refine pe_imp (pe_slice sl_any ha (po_some hb) (po_some hc)) fun σ H Q ⟨ρ, S, δ, en, h⟩ => ⟨ρ, S, δ, en, h.bnd.imp fun d S1 ρ1 H1 l1 s1 h1 x r1 => ?_⟩
  refine ⟨ρ1, S1, δ, en.mono l1, h1.bnd.imp fun d2 S2 ρ2 H2 l2 s2 h2 y r2 => ?_⟩
  obtain ⟨i, e1, h2⟩ := chkI_at r2 h2.bnd
  refine ⟨i, e1, ρ2, S2, δ, (en.mono l1).mono l2, h2.bnd.imp fun d3 S3 ρ3 H3 l3 s3 h3 z r3 => ?_⟩
  obtain ⟨j, e3, h3⟩ := chkI_at r3 h3.bnd
  exact ⟨j, e3, slice_at hK ((r1.mono l2).mono l3) rfl rfl h3⟩
end
end NB

set_option Elab.async false
set_option linter.all false
set_option maxRecDepth 100000
set_option maxHeartbeats 4000000
/-! Snd6: is None, calls of built-ins. -/
namespace NB
open PySem PySem.Spec L2
open PyProof.Rows hiding St

section
variable {C : Cf} {X : Cx} {ρ : List Addr} {H : Hp} {op : Hot} {W : WX}
theorem isnon_rep {d : D} {v : V} (r : RepV C op ρ H d v) : v = .non ↔ d = .non := by
  rcases r with r | ⟨c, fs, e, p, _, e2, _⟩
  · constructor
    · intro z; subst z; cases r; rfl
    · intro z; subst z; exact rep_non r
  · subst e e2
    constructor
    · intro z; cases z
    · intro z; cases z
theorem op2_is : Op2 C X (compareOp .Is) isD := by
  intro op W σ0 pins s σ H x y v u Q I rx ry ⟨ρ, S, d1, d2, r1, r2, h⟩
  cases d2 with
  | non =>
    cases rep_non (r2.plain rfl)
    have i1 := isnon_rep r1
    refine op_isN pins s σ H _ _ v u Q I rx ry ⟨rfl, ?_⟩
    cases d1 with
    | non => rw [decide_eq_true (i1.mpr rfl)]; exact fin h (.bl _)
    | exc c fs => exact h.err.elim
    | _ => rw [decide_eq_false (fun z => by cases i1.mp z)]; exact fin h (.bl _)
  | _ => exact h.err.elim
theorem op2_isnt : Op2 C X (compareOp .IsNot) isntD := by
  intro op W σ0 pins s σ H x y v u Q I rx ry ⟨ρ, S, d1, d2, r1, r2, h⟩
  cases d2 with
  | non =>
    cases rep_non (r2.plain rfl)
    have i1 := isnon_rep r1
    refine op_notN pins s σ H _ _ v u Q I rx ry ⟨rfl, ?_⟩
    cases d1 with
    | non => rw [decide_eq_true (i1.mpr rfl)]; exact fin h (.bl _)
    | exc c fs => exact h.err.elim
    | _ => rw [decide_eq_false (fun z => by cases i1.mp z)]; exact fin h (.bl _)
  | _ => exact h.err.elim

/-! ### calls -/
def OpN (C : Cf) (X : Cx) (f : Value) (o : List D → M D) : Prop := ∀ (op : Hot) (W : WX) (σ0 : L2.St), CallR X f fun xs H Q =>
  ∃ ρ S ds, RepVs C op ρ H ds xs ∧ At C W σ0 ρ H S (o ds) fun d _ ρ' H' => ∀ v, RepV C op ρ' H' d v → Q v H'
theorem one_at {o : D → M D} {ds : List D} {xs : List V} {σ : L2.St} {S : Store} {R : D → Store → List Addr → Hp → Prop} (r : RepVs C op ρ H ds xs) (h : At C W σ ρ H S (one o ds) R) : ∃ d v, ds = [d] ∧ xs = [v] ∧ RepV C op ρ H d v ∧ At C W σ ρ H S (o d) R := by
  match ds, xs, r, h with
  | [], _, _, h => exact h.err.elim
  | [d], [v], r, h => exact ⟨d, v, rfl, rfl, r.1, h⟩
  | [d], [], r, _ => exact r.elim
  | [d], _ :: _ :: _, r, _ => exact r.2.elim
  | _ :: _ :: _, _, _, h => exact h.err.elim
theorem opn_abs : OpN C X (.builtin "abs") (one absD) := by
  intro op W σ0 pins s σ H xs us Q I r ⟨ρ, S, ds, rs, h⟩
  obtain ⟨d, v, rfl, rfl, r1, h⟩ := one_at rs h
  cases d with
  | int i => cases rep_int (r1.plain rfl); exact call_abs pins s σ H _ us Q I r ⟨i, rfl, fin h (.int _)⟩
  | _ => exact h.err.elim
theorem opn_int : OpN C X (.type "int") (one intD) := by
  intro op W σ0 pins s σ H xs us Q I r ⟨ρ, S, ds, rs, h⟩
  obtain ⟨d, v, rfl, rfl, r1, h⟩ := one_at rs h
  cases d with
  | int i => cases rep_int (r1.plain rfl); exact call_int1 pins s σ H _ us Q I r (.inl ⟨i, rfl, fin h (.int _)⟩)
  | bl b => cases rep_bl (r1.plain rfl); exact call_int1 pins s σ H _ us Q I r (.inr ⟨b, rfl, fin h (.int _)⟩)
  | str a =>
    obtain ⟨e, hz⟩ := rep_str (r1.plain rfl)
    subst e
    obtain ⟨hc, h⟩ := h.chk
    rw [Bool.and_eq_true, Bool.and_eq_true] at hc
    obtain ⟨⟨h1, h2⟩, h3⟩ := hc
    have h2 := of_decide_eq_true h2
    have h3 := of_decide_eq_true h3
    exact call_int_str pins s σ H _ us Q I r ⟨_, _, rfl, SX.int_S h1 (fun z => by subst z; exact absurd h2 (by decide)) (by omega), by rw [str_len]; exact h3, fin h (.int _)⟩
  | _ => exact h.err.elim
theorem toStr_eq (i : Int) : ((toString i : String) : PySem.Str) = ⟨(textOf i).toArray⟩ := by
  show PySem.Str.ofString (toString i) = _
  rw [PySem.Str.ofString_eq_toList]
  congr 2
  unfold textOf digitsOf
  cases i with
  | ofNat n =>
    rw [if_neg (show ¬ (Int.ofNat n < 0) from Int.not_lt.mpr (Int.natCast_nonneg n))]
    show (Nat.repr n).toList.map Char.toNat = _
    unfold Nat.repr
    rw [String.toList_ofList] <;> rfl
  | negSucc n =>
    rw [if_pos (show Int.negSucc n < 0 from Int.negSucc_lt_zero n)]
    show ("-" ++ Nat.repr (n + 1)).toList.map Char.toNat = _
    rw [String.toList_append, List.map_append]
    show _ ++ List.map Char.toNat (String.ofList (Nat.toDigits 10 (n + 1))).toList = _
    have e : (String.ofList (Nat.toDigits 10 (n + 1))).toList = Nat.toDigits 10 (n + 1) := String.toList_ofList
    rw [e] <;> rfl
theorem toDigits_len (n : Nat) : (Nat.toDigits 10 n).length ≤ n.log2 + 1 := by
  have h := Nat.length_toDigits_le_iff (b := 10) (n := n) (k := n.log2 + 1) (by omega) (by omega)
  refine h.mpr ?_
  have h1 : n < 2 ^ (n.log2 + 1) := Nat.lt_log2_self
  exact Nat.lt_of_lt_of_le h1 (Nat.pow_le_pow_left (by omega) _)
theorem opn_str : OpN C X (.type "str") (one strD) := by
  intro op W σ0 pins s σ H xs us Q I r ⟨ρ, S, ds, rs, h⟩
  obtain ⟨d, v, rfl, rfl, r1, h⟩ := one_at rs h
  cases d with
  | int i =>
    cases rep_int (r1.plain rfl)
    obtain ⟨hz, h⟩ := h.chk
    have hz := of_decide_eq_true hz
    refine call_str_int pins s σ H _ us Q I r ⟨i, rfl, hz, ?_⟩
    rw [toStr_eq]
    refine fin h (.str ?_)
    have e := toDigits_len i.natAbs
    unfold textOf digitsOf SZ
    split <;> simp only [List.length_cons, List.length_map] <;> omega
  | _ => exact h.err.elim
theorem lenD_at {d : D} {v : V} {σ : L2.St} {S : Store} {Q : VK} (hK : X.K = C.K) (r : RepV C op ρ H d v) (h : At C W σ ρ H S (lenD d) fun d _ ρ' H' => ∀ v, RepV C op ρ' H' d v → Q v H') : ∃ n, LenV X.K v H n ∧ Q (.int n) H := by
  cases d with
  | str s =>
    obtain ⟨e, hz⟩ := rep_str (r.plain rfl)
    subst e
    exact ⟨s.length, ⟨by rw [str_len, ← sz_eq]; exact hz, (str_len s).symm⟩, fin h (.int _)⟩
  | tup xs =>
    obtain ⟨a, vs, rfl, t, q⟩ := rep_tup (r.plain rfl)
    exact ⟨xs.length, .inr ⟨vs, by rw [hK]; exact t, q.length.symm⟩, fin h (.int _)⟩
  | kl xs =>
    obtain ⟨a, vs, rfl, t, q⟩ := rep_kl (r.plain rfl)
    exact ⟨xs.length, .inl ⟨vs, by rw [hK]; exact t.sql, q.length.symm⟩, fin h (.int _)⟩
  | loc n =>
    obtain ⟨a, rfl, g⟩ := rep_loc (r.plain rfl)
    obtain ⟨hs, h⟩ := h
    unfold Wp lenD at h
    dsimp only at h
    cases e : S[n]? with
    | none => rw [e] at h; exact h.elim
    | some o =>
      rw [e] at h
      cases o with
      | lst w xs =>
        obtain ⟨vs, l, q⟩ := hs.seqAt e g
        exact ⟨xs.length, .inl ⟨vs, by rw [hK]; exact l, q.length.symm⟩, h ρ H .refl hs _ (.inl (.int _))⟩
      | dic kvs => exact (hs.obj n _ a e g).elim
      | ins c fs => exact h.elim
  | _ => exact h.err.elim
theorem opn_len (hK : X.K = C.K) : OpN C X (.builtin "len") (one lenD) := by
  intro op W σ0 pins s σ H xs us Q I r ⟨ρ, S, ds, rs, h⟩
  obtain ⟨d, v, rfl, rfl, r1, h⟩ := one_at rs h
  obtain ⟨n, l, q⟩ := lenD_at hK r1 h
  exact call_len pins s σ H _ us Q I r ⟨v, n, rfl, l, q⟩
theorem seqOf_at {d : D} {v : V} {σ : L2.St} {S : Store} {R : List D → Store → List Addr → Hp → Prop} (r : RepV C op ρ H d v) (h : At C W σ ρ H S (seqOf d) R) :
    ∃ p xs vs, v = .ref p ∧ RepL C.K ρ H xs vs ∧ R xs S ρ H ∧ ((SqT C.K H p vs ∧ d = .tup xs) ∨ SqL C.K H p vs) := by
  cases d with
  | tup xs =>
    obtain ⟨a, vs, rfl, t, q⟩ := rep_tup (r.plain rfl)
    exact ⟨a, xs, vs, rfl, q, h.ret, .inl ⟨t, rfl⟩⟩
  | loc n =>
    obtain ⟨a, rfl, g⟩ := rep_loc (r.plain rfl)
    have hs := h.1
    obtain ⟨w, xs, e, q⟩ := (show At C W σ ρ H S (NB.listAt n) R from h).listAt
    obtain ⟨vs, l, q1⟩ := hs.seqAt e g
    exact ⟨a, xs, vs, rfl, q1, q, .inr l⟩
  | _ => exact h.err.elim
theorem opn_list (hK : X.K = C.K) : OpN C X (.type "list") (one listD) := by
  intro op W σ0 pins s σ H xs us Q I r ⟨ρ, S, ds, rs, h⟩
  obtain ⟨d, v, rfl, rfl, r1, h⟩ := one_at rs h
  obtain ⟨p, ys, vs, rfl, q1, h, l⟩ := seqOf_at r1 (show At C W σ0 ρ H S (bnd (seqOf d) newL) _ from h).bnd
  refine call_list_of pins s σ H _ us Q I r ⟨p, vs, rfl, ?_, fin_new h q1⟩
  rw [hK]
  rcases l with l | l
  · exact .inr l.1
  · exact .inl l
theorem opn_tuple (hK : X.K = C.K) : OpN C X (.type "tuple") (one tupleD) := by
  intro op W σ0 pins s σ H xs us Q I r ⟨ρ, S, ds, rs, h⟩
  obtain ⟨d, v, rfl, rfl, r1, h⟩ := one_at rs h
  obtain ⟨p, ys, vs, rfl, q1, h, l⟩ := seqOf_at r1 (show At C W σ0 ρ H S (bnd (seqOf d) mkTup) _ from h).bnd
  obtain ⟨hz, h⟩ := (show At C W σ0 ρ H S (bif noExc ys && decide (ys.length ≤ SZ) then ret (D.tup ys) else err) (fun d _ ρ' H' => ∀ v, RepV C op ρ' H' d v → Q v H') from h).chk
  refine call_tuple_of pins s σ H _ us Q I r ⟨p, vs, rfl, ?_⟩
  rw [hK]
  rcases l with ⟨l, e⟩ | l
  · exact .inr ⟨l, fin h (.tup l q1)⟩
  · exact .inl ⟨l, fin_tup h q1⟩
theorem two_at {ds : List D} {xs : List V} {x y : D} (r : RepVs C op ρ H ds xs) (e : ds = [x, y]) : ∃ v w, xs = [v, w] ∧ RepV C op ρ H x v ∧ RepV C op ρ H y w := by
  subst e
  match xs, r with
  | [v, w], r => exact ⟨v, w, rfl, r.1, r.2.1⟩
  | [], r => exact r.elim
  | [_], r => exact r.2.elim
  | _ :: _ :: _ :: _, r => exact r.2.2.elim
theorem maxD_at {ds : List D} {σ : L2.St} {S : Store} {R : D → Store → List Addr → Hp → Prop} (h : At C W σ ρ H S (maxD ds) R) : ∃ i j, ds = [.int i, .int j] := by
  unfold maxD at h
  split at h
  · exact ⟨_, _, rfl⟩
  · exact h.err.elim
theorem minD_at {ds : List D} {σ : L2.St} {S : Store} {R : D → Store → List Addr → Hp → Prop} (h : At C W σ ρ H S (minD ds) R) : ∃ i j, ds = [.int i, .int j] := by
  unfold minD at h
  split at h
  · exact ⟨_, _, rfl⟩
  · exact h.err.elim
theorem opn_max (hc : X.calm = true) : OpN C X (.builtin "max") maxD := by
  intro op W σ0 pins s σ H xs us Q I r ⟨ρ, S, ds, rs, h⟩
  obtain ⟨i, j, rfl⟩ := maxD_at h
  obtain ⟨v, w, rfl, r1, r2⟩ := two_at rs rfl
  cases rep_int (r1.plain rfl); cases rep_int (r2.plain rfl)
  exact call_max2 hc pins s σ H _ us Q I r ⟨i, j, rfl, fin h (.int _)⟩
theorem opn_min (hc : X.calm = true) : OpN C X (.builtin "min") minD := by
  intro op W σ0 pins s σ H xs us Q I r ⟨ρ, S, ds, rs, h⟩
  obtain ⟨i, j, rfl⟩ := minD_at h
  obtain ⟨v, w, rfl, r1, r2⟩ := two_at rs rfl
  cases rep_int (r1.plain rfl); cases rep_int (r2.plain rfl)
  exact call_min2 hc pins s σ H _ us Q I r ⟨i, j, rfl, fin h (.int _)⟩
end
section
variable {C : Cf} {X : Cx} {op : Hot} {W : WX} {x : PySem.Str} {p pos : Pos} {e : Expr} {es : List Expr} {ms : AA} {o : List D → M D}
theorem tCB_at {f : Value} {r : List V → Hp → VK → Prop} {σ : L2.St} {H : Hp} {Q : VK} (h : tE C op W (opnE o ms) σ H Q) : tCB (fun xs H Q => ∃ ρ S ds, RepVs C op ρ H ds xs ∧ At C W σ ρ H S (o ds) fun d _ ρ' H' => ∀ v, RepV C op ρ' H' d v → Q v H') (tA C op W ms) σ H Q := by
  obtain ⟨ρ, S, δ, en, h⟩ := h
  exact ⟨ρ, S, δ, en, h.bnd.imp fun ds S1 ρ1 H1 l1 s1 h1 xs r1 => ⟨ρ1, S1, ds, r1, h1⟩⟩
theorem ge_callB {id : String} (hc : OpN C X (.builtin id) o) (hg : Gl X x) (hm : X.mg x = none) (hv : bootBuiltins x = some (.builtin id)) (ha : PA X (e :: es) (tA C op W ms)) (hs : (e :: es).all notStar = true) (hn : x ≠ "__name__") (hdb : (x == ("__debug__" : PySem.Str)) = false) :
    PE X (.Call (.Name x p) (e :: es) [] pos) (tE C op W (opnE o ms)) := by
  refine ⟨fun pins s σ H Q I h => ?_⟩
  have h1 : notStar e = true ∧ es.all notStar = true := by rw [List.all_cons, Bool.and_eq_true] at hs; exact hs
  exact (pe_callB (hc op W σ) hg hm hv ha hn hdb (star_cons h1.1 es _) (star_all h1.2 _ _)).run pins s σ H Q I (tCB_at (f := .none) (r := fun _ _ _ => True) h)
theorem ge_callTy {T : String} (hc : OpN C X (.type T) o) (hg : Gl X x) (hm : X.mg x = none) (hv : bootBuiltins x = some (.type T)) (ha : PA X (e :: es) (tA C op W ms)) (hs : (e :: es).all notStar = true) (hn : x ≠ "__name__") (hdb : (x == ("__debug__" : PySem.Str)) = false) :
    PE X (.Call (.Name x p) (e :: es) [] pos) (tE C op W (opnE o ms)) := by
  refine ⟨fun pins s σ H Q I h => ?_⟩
  have h1 : notStar e = true ∧ es.all notStar = true := by rw [List.all_cons, Bool.and_eq_true] at hs; exact hs
  exact (pe_callTy (hc op W σ) hg hm hv ha hn hdb (star_cons h1.1 es _) (star_all h1.2 _ _)).run pins s σ H Q I (tCB_at (f := .none) (r := fun _ _ _ => True) h)
end
end NB

set_option Elab.async false
set_option linter.all false
set_option maxRecDepth 100000
set_option maxHeartbeats 4000000
/-! Snd7: methods of texts and lists. -/
namespace NB
open PySem PySem.Spec L2
open PyProof.Rows hiding St

/-- a method of a built-in type -/
def MethOk (C : Cf) (X : Cx) (name : PySem.Str) (k : D → M Unit) (o : D → List D → M D) : Prop := ∀ (op : Hot) (W : WX) (σ0 : L2.St) (ρ : List Addr) (H : Hp) (S : Store) (d : D) (x : V) (R : Unit → Store → List Addr → Hp → Prop),
  RepV C op ρ H d x → At C W σ0 ρ H S (k d) R → R () S ρ H ∧ ∃ T id, PlainAttrs T ∧ Slot T name id ∧ typeOf (.builtin id) = pure (.type "method_descriptor") ∧ tyV X.K T x H ∧
    MtM X id fun y ys H Q => y = x ∧ ∃ ρ S ds, RepV C op ρ H d x ∧ RepVs C op ρ H ds ys ∧ At C W σ0 ρ H S (o d ds) fun d _ ρ' H' => ∀ v, RepV C op ρ' H' d v → Q v H'
def notSuper : Expr → Bool
  | .Call _ _ _ _ => false
  | _ => true
theorem base_plain {o : Expr} (h : notSuper o = true) (name : PySem.Str) (env : PySem.Env) : attributeBase o name env (eval o env) = eval o env := by
  cases o <;> first
    | rfl
    | (cases h; done)
section
variable {C : Cf} {X : Cx} {op : Hot} {W : WX} {name : PySem.Str} {apos cpos : Pos} {e o' : Expr} {es : List Expr} {ma : EE} {ms : AA} {k : D → M Unit} {o : D → List D → M D}
theorem all_not : ∀ (l : List (Bool × Sem Value)), l.any (·.1) = false → l.all (fun x => !x.1) = true
  | [], _ => rfl
  | x :: l, h => by
    rw [List.any_cons, Bool.or_eq_false_iff] at h
    rw [List.all_cons, h.1, all_not l h.2] <;> rfl
theorem ge_meth0 (hm : MethOk C X name k o) (ho : PE X o' (tE C op W ma)) (hb : attributeBase o' name X.env (eval o' X.env) = eval o' X.env) (hl : (apos.endLine == cpos.line) = true) :
    PE X (.Call (.Attribute o' name apos) [] [] cpos) (tE C op W (methE k o ma nilA)) := by
  refine ⟨fun pins s σ H Q I h => ?_⟩
  obtain ⟨ρ, S, δ, en, h⟩ := h
  refine wpAny_Call_method0_late hb hl (thn (ho.run pins s σ H (fun x H1 => ∃ d ρ1 S1, EnvR C op ρ1 H1 δ σ ∧ RepV C op ρ1 H1 d x ∧ At C W σ ρ1 H1 S1 (bnd (k d) fun _ => o d []) fun d _ ρ' H' => ∀ v, RepV C op ρ' H' d v → Q v H') I
    ⟨ρ, S, δ, en, h.bnd.imp fun d S1 ρ1 H1 l1 s1 h1 x r1 => ⟨d, ρ1, S1, en.mono l1, r1, h1⟩⟩) fun u s1 ⟨x, H1, I1, rx, d, ρ1, S1, en1, r1, h1⟩ => ?_)
  obtain ⟨h2, T, id, pa, slot, hty, ty, mt⟩ := hm op W σ ρ1 H1 S1 d x _ r1 h1.bnd
  obtain ⟨t1, t2⟩ := tyV_is I1 rx ty
  exact ⟨T, id, pa, slot, hty, t1, t2, Calls.callWith_builtin rfl (PySem.evalArgs_none (mt pins s1 σ H1 x [] u [] Q I1 rx .nil ⟨rfl, ρ1, S1, [], r1, trivial, h2⟩))⟩
theorem ge_meth (hm : MethOk C X name k o) (ho : PE X o' (tE C op W ma)) (ha : PA X (e :: es) (tA C op W ms)) (hb : attributeBase o' name X.env (eval o' X.env) = eval o' X.env) (hl : (apos.endLine == cpos.line) = true) (hs : (e :: es).all notStar = true) (hn : (e :: es).length < 29) :
    PE X (.Call (.Attribute o' name apos) (e :: es) [] cpos) (tE C op W (methE k o ma ms)) := by
  refine ⟨fun pins s σ H Q I h => ?_⟩
  obtain ⟨ρ, S, δ, en, h⟩ := h
  have hany := star_all hs X.env cpos
  have hfew : ((backTo cpos (starEach (e :: es) X.env)).all (fun x => !x.1) && (backToKw cpos (keywordEach [] X.env)).all (fun x => x.1.isSome)
      && decide ((e :: es).length + ([] : List Keyword).length + (if ([] : List Keyword).isEmpty then 0 else 1) < 30)) = true := by
    rw [all_not _ hany, Bool.true_and]
    show (true && decide ((e :: es).length + 0 + 0 < 30)) = true
    rw [decide_eq_true (by omega)] <;> rfl
  refine wpAny_Call_method_late hb hfew hl rfl (thn (ho.run pins s σ H (fun x H1 => ∃ d ρ1 S1, EnvR C op ρ1 H1 δ σ ∧ RepV C op ρ1 H1 d x ∧ At C W σ ρ1 H1 S1 (bnd (k d) fun _ => bnd (ms δ) fun ys => o d ys) fun d _ ρ' H' => ∀ v, RepV C op ρ' H' d v → Q v H') I
    ⟨ρ, S, δ, en, h.bnd.imp fun d S1 ρ1 H1 l1 s1 h1 x r1 => ⟨d, ρ1, S1, en.mono l1, r1, h1⟩⟩) fun u s1 ⟨x, H1, I1, rx, d, ρ1, S1, en1, r1, h1⟩ => ?_)
  obtain ⟨h2, T, id, pa, slot, hty, ty, mt⟩ := hm op W σ ρ1 H1 S1 d x _ r1 h1.bnd
  obtain ⟨t1, t2⟩ := tyV_is I1 rx ty
  refine ⟨T, id, pa, slot, hty, t1, t2, ?_⟩
  have hA := ha.run cpos pins s1 σ H1 (fun ys H2 => ∃ ρ S ds, RepV C op ρ H2 d x ∧ RepVs C op ρ H2 ds ys ∧ At C W σ ρ H2 S (o d ds) fun d _ ρ' H' => ∀ v, RepV C op ρ' H' d v → Q v H') I1
    ⟨ρ1, S1, δ, en1, h2.bnd.imp fun ds S2 ρ2 H2 l2 s2 h3 ys r2 => ⟨ρ2, S2, ds, r1.mono l2, r2, h3⟩⟩
  have h1 : notStar e = true ∧ es.all notStar = true := by rw [List.all_cons, Bool.and_eq_true] at hs; exact hs
  rw [star_cons h1.1] at hA ⊢
  refine Calls.callWith_builtin (by show (false || (backTo cpos (starEach es X.env)).any (·.1)) = false; rw [star_all h1.2] <;> rfl) (Calls.evalArgs_plain ?_)
  exact thn hA fun us s2 ⟨vs, H2, I2, r2, ρ2, S2, ds, r3, r4, h4⟩ => mt pins s2 σ H2 x vs u us Q I2 rx r2 ⟨rfl, ρ2, S2, ds, r3, r4, h4⟩
end
/-! ### the methods -/
section
variable {C : Cf} {X : Cx}
theorem lstK_at {W : WX} {σ : L2.St} {ρ : List Addr} {H : Hp} {S : Store} {d : D} {x : V} {op : Hot} {R : Unit → Store → List Addr → Hp → Prop} (r : RepV C op ρ H d x) (h : At C W σ ρ H S (lstK d) R) : R () S ρ H ∧ ∃ n p xs vs, d = .loc n ∧ x = .ref p ∧ ρ[n]? = some p ∧ S[n]? = some (.lst true xs) ∧ H p = some (.lst vs) ∧ RepL C.K ρ H xs vs := by
  cases d with
  | loc n =>
    obtain ⟨p, rfl, g⟩ := rep_loc (r.plain rfl)
    have hs := h.1
    obtain ⟨xs, e, q⟩ := (show At C W σ ρ H S (bnd (listW n) fun _ => ret ()) R from h).bnd.listW
    obtain ⟨vs, l, q1⟩ := hs.wAt e g
    exact ⟨q.ret, n, p, xs, vs, rfl, rfl, g, e, l, q1⟩
  | _ => exact h.err.elim
theorem strK_at {W : WX} {σ : L2.St} {ρ : List Addr} {H : Hp} {S : Store} {d : D} {x : V} {op : Hot} {R : Unit → Store → List Addr → Hp → Prop} (r : RepV C op ρ H d x) (h : At C W σ ρ H S (strK d) R) : R () S ρ H ∧ ∃ s, d = .str s ∧ x = .str ⟨s.toArray⟩ ∧ s.length ≤ SZ := by
  cases d with
  | str s =>
    obtain ⟨e, hz⟩ := rep_str (r.plain rfl)
    exact ⟨h.ret, s, rfl, e, hz⟩
  | _ => exact h.err.elim
theorem m0_at {W : WX} {σ : L2.St} {ρ : List Addr} {H : Hp} {S : Store} {d : D} {o : D → M D} {ds : List D} {ys : List V} {op : Hot} {R : D → Store → List Addr → Hp → Prop} (r : RepVs C op ρ H ds ys) (h : At C W σ ρ H S (m0 o d ds) R) : ys = [] ∧ At C W σ ρ H S (o d) R := by
  match ds, ys, r, h with
  | [], [], _, h => exact ⟨rfl, h⟩
  | [], _ :: _, r, _ => exact r.elim
  | _ :: _, _, _, h => exact h.err.elim
theorem m1_at {W : WX} {σ : L2.St} {ρ : List Addr} {H : Hp} {S : Store} {d : D} {o : D → D → M D} {ds : List D} {ys : List V} {op : Hot} {R : D → Store → List Addr → Hp → Prop} (r : RepVs C op ρ H ds ys) (h : At C W σ ρ H S (m1 o d ds) R) : ∃ e v, ys = [v] ∧ RepV C op ρ H e v ∧ At C W σ ρ H S (o d e) R := by
  match ds, ys, r, h with
  | [], _, _, h => exact h.err.elim
  | [e], [v], r, h => exact ⟨e, v, rfl, r.1, h⟩
  | [_], [], r, _ => exact r.elim
  | [_], _ :: _ :: _, r, _ => exact r.2.elim
  | _ :: _ :: _, _, _, h => exact h.err.elim
theorem fin_put {W : WX} {σ : L2.St} {ρ : List Addr} {H : Hp} {S : Store} {op : Hot} {n : Nat} {p : Addr} {ys : List D} {vs : List V} {e : D} {v : V} {Q : VK} (g : ρ[n]? = some p) (q : RepL C.K ρ H ys vs) (re : RepD C.K ρ H e v)
    (h : At C W σ ρ H S (bnd (putL n ys) fun _ => ret e) fun d _ ρ' H' => ∀ v, RepV C op ρ' H' d v → Q v H') : ys.length ≤ sizeLine ∧ Q v (upd H p (.lst vs)) := by
  have hs := h.1
  obtain ⟨xs, e0, _, hz, _⟩ := h.bnd.putL
  obtain ⟨us, ha, _⟩ := hs.wAt e0 g
  have h2 := h.bnd.putL_at g q
  exact ⟨hz, h2.ret v (.inl (re.mono (.write g ha)))⟩
theorem mo_append (hK : X.K = C.K) : MethOk C X "append" lstK (m1 appendD) := by
  intro op W σ0 ρ H S d x R r h
  obtain ⟨h0, n, p, xs, vs, rfl, rfl, g, e, l, q⟩ := lstK_at r h
  refine ⟨h0, "list", "list.append", F.plainAttrs_list, F.slot_list_append, F.type_list_append, .inl ⟨rfl, vs, .inl (.inl l)⟩, ?_⟩
  intro pins s σ H2 y ys u us Q I rx rs ⟨ey, ρ2, S2, ds, r1, r2, h2⟩
  subst ey
  obtain ⟨z, v, rfl, rv, h2⟩ := m1_at r2 h2
  have hs := h2.1
  obtain ⟨xs2, e2, h3⟩ := (show At C W σ0 ρ2 H2 S2 (bnd (listW n) fun xs => bnd (putL n (xs ++ [z])) fun _ => ret D.non) _ from h2).bnd.listW
  obtain ⟨p', ep, g2⟩ := rep_loc (r1.plain rfl)
  cases ep
  obtain ⟨vs2, l2, q2⟩ := hs.wAt e2 g2
  have hn : isExc z = false := by
    obtain ⟨_, _, hx, _⟩ := h3.bnd.putL
    unfold noExc at hx
    rw [List.all_append, Bool.and_eq_true] at hx
    simpa using hx.2
  obtain ⟨hz, hq⟩ := fin_put g2 (q2.append (.cons (rv.plain hn) .nil)) .non h3
  refine mt_append pins s σ H2 _ _ u us Q I rx rs ⟨p, vs2, v, rfl, rfl, l2, ?_, hq⟩
  rw [q2.length]
  rw [List.length_append] at hz
  exact hz
theorem mo_reverse (hK : X.K = C.K) : MethOk C X "reverse" lstK (m0 reverseD) := by
  intro op W σ0 ρ H S d x R r h
  obtain ⟨h0, n, p, xs, vs, rfl, rfl, g, e, l, q⟩ := lstK_at r h
  refine ⟨h0, "list", "list.reverse", F.plainAttrs_list, F.slot_list_reverse, F.type_list_reverse, .inl ⟨rfl, vs, .inl (.inl l)⟩, ?_⟩
  intro pins s σ H2 y ys u us Q I rx rs ⟨ey, ρ2, S2, ds, r1, r2, h2⟩
  subst ey
  obtain ⟨rfl, h2⟩ := m0_at r2 h2
  have hs := h2.1
  obtain ⟨xs2, e2, h3⟩ := (show At C W σ0 ρ2 H2 S2 (bnd (listW n) fun xs => bnd (putL n xs.reverse) fun _ => ret D.non) _ from h2).bnd.listW
  obtain ⟨p', ep, g2⟩ := rep_loc (r1.plain rfl)
  cases ep
  obtain ⟨vs2, l2, q2⟩ := hs.wAt e2 g2
  obtain ⟨hz, hq⟩ := fin_put g2 q2.reverse .non h3
  exact mt_reverse pins s σ H2 _ _ u us Q I rx rs ⟨p, vs2, rfl, rfl, l2, hq⟩
theorem mo_extend (hK : X.K = C.K) : MethOk C X "extend" lstK (m1 extendD) := by
  intro op W σ0 ρ H S d x R r h
  obtain ⟨h0, n, p, xs, vs, rfl, rfl, g, e, l, q⟩ := lstK_at r h
  refine ⟨h0, "list", "list.extend", F.plainAttrs_list, F.slot_list_extend, F.type_list_extend, .inl ⟨rfl, vs, .inl (.inl l)⟩, ?_⟩
  intro pins s σ H2 y ys u us Q I rx rs ⟨ey, ρ2, S2, ds, r1, r2, h2⟩
  subst ey
  obtain ⟨z, v, rfl, rv, h2⟩ := m1_at r2 h2
  have hs := h2.1
  cases z with
  | loc m =>
    obtain ⟨xs2, e2, h3⟩ := (show At C W σ0 ρ2 H2 S2 (bnd (listW n) fun xs => bnd (listW m) fun ys => bnd (putL n (xs ++ ys)) fun _ => ret D.non) _ from h2).bnd.listW
    obtain ⟨xs3, e3, h4⟩ := h3.bnd.listW
    obtain ⟨p', ep, g2⟩ := rep_loc (r1.plain rfl)
    cases ep
    obtain ⟨b, rfl, g3⟩ := rep_loc (rv.plain rfl)
    obtain ⟨vs2, l2, q2⟩ := hs.wAt e2 g2
    obtain ⟨vs3, l3, q3⟩ := hs.wAt e3 g3
    obtain ⟨hz, hq⟩ := fin_put g2 (q2.append q3) .non h4
    refine mt_extend pins s σ H2 _ _ u us Q I rx rs ⟨p, b, vs2, vs3, rfl, rfl, l2, l3, ?_, hq⟩
    rw [q2.length, q3.length]
    rw [List.length_append] at hz
    exact hz
  | _ => exact h2.err.elim
theorem mo_pop (hK : X.K = C.K) : MethOk C X "pop" lstK (m1 popAtD) := by
  intro op W σ0 ρ H S d x R r h
  obtain ⟨h0, n, p, xs, vs, rfl, rfl, g, e, l, q⟩ := lstK_at r h
  refine ⟨h0, "list", "list.pop", F.plainAttrs_list, F.slot_list_pop, F.type_list_pop, .inl ⟨rfl, vs, .inl (.inl l)⟩, ?_⟩
  intro pins s σ H2 y ys u us Q I rx rs ⟨ey, ρ2, S2, ds, r1, r2, h2⟩
  subst ey
  obtain ⟨z, v, rfl, rv, h2⟩ := m1_at r2 h2
  have hs := h2.1
  cases z with
  | int i =>
    cases rep_int (rv.plain rfl)
    obtain ⟨xs2, e2, h3⟩ := (show At C W σ0 ρ2 H2 S2 (bnd (listW n) fun xs => (match ixOf i xs.length with
      | some k => (match xs[k]? with
        | some d => bnd (putL n (xs.eraseIdx k)) fun _ => ret d
        | none => err)
      | none => err)) _ from h2).bnd.listW
    obtain ⟨p', ep, g2⟩ := rep_loc (r1.plain rfl)
    cases ep
    obtain ⟨vs2, l2, q2⟩ := hs.wAt e2 g2
    cases e3 : ixOf i xs2.length with
    | none => rw [e3] at h3; exact h3.err.elim
    | some k =>
      rw [e3] at h3
      dsimp only at h3
      cases e4 : xs2[k]? with
      | none => rw [e4] at h3; exact h3.err.elim
      | some d =>
        rw [e4] at h3
        obtain ⟨w, e5, rw'⟩ := q2.get e4
        obtain ⟨hz, hq⟩ := fin_put g2 (q2.eraseIdx k) rw' h3
        have hlen : vs2.length ≤ sizeLine := (I.lstM l2).1
        have hlen' : (xs2.length : Int) ≤ 16777216 := by
          rw [← q2.length]
          rw [sizeLine_eq] at hlen
          exact Int.ofNat_le.mpr hlen
        have hb : -(2 ^ 63) ≤ i ∧ i < 2 ^ 63 := by
          unfold ixOf at e3
          split at e3
          · split at e3
            · omega
            · cases e3
          · split at e3
            · omega
            · cases e3
        refine mt_popAt pins s σ H2 _ _ u us Q I rx rs ⟨p, vs2, i, k, w, rfl, rfl, l2, hb.1, hb.2, ?_, e5, hq⟩
        rw [q2.length]
        exact ix_seq' e3
  | _ => exact h2.err.elim
where
  ix_seq' {i : Int} {n k : Nat} (h : ixOf i n = some k) : seqIndex? i n = some k := by
    unfold ixOf at h
    unfold seqIndex?
    split at h
    · split at h
      · cases h
        rw [if_neg (show ¬ i < 0 by omega)]
        dsimp only
        rw [decide_eq_true (show 0 ≤ i by omega), decide_eq_true (show i < (n : Int) by omega)] <;> rfl
      · cases h
    · split at h
      · cases h
        rw [if_pos (show i < 0 by omega)]
        dsimp only
        rw [decide_eq_true (show 0 ≤ i + (n : Int) by omega), decide_eq_true (show i + (n : Int) < (n : Int) by omega)] <;> rfl
      · cases h
/-! ### texts -/
theorem strs_rep {ρ : List Addr} {H : Hp} : ∀ {xs : List D} {vs : List V} {ts : List (List Nat)}, RepL C.K ρ H xs vs → strsOf xs = some ts → vs = (ts.map SX.S).map V.str
  | [], _, _, .nil, h => by cases h; rfl
  | d :: xs, _, ts, .cons r t, h => by
    cases d with
    | str s =>
      unfold strsOf at h
      cases e : strsOf xs with
      | none => rw [e] at h; cases h
      | some us =>
        rw [e] at h
        cases h
        obtain ⟨ev, _⟩ := rep_str r
        subst ev
        rw [strs_rep t e] <;> rfl
    | _ => cases h
theorem strs_back {ρ : List Addr} {H : Hp} : ∀ {ts : List (List Nat)}, (∀ t ∈ ts, t.length ≤ SZ) → RepL C.K ρ H (ts.map D.str) ((ts.map SX.S).map V.str)
  | [], _ => .nil
  | t :: ts, h => .cons (.str (h t (List.mem_cons_self ..))) (strs_back fun u hu => h u (List.mem_cons_of_mem _ hu))
theorem joinL_eq (s : List Nat) : ∀ ts : List (List Nat), joinL s ts = TL.joinL s ts
  | [] => rfl
  | [_] => rfl
  | x :: y :: r => by
    show x ++ (s ++ joinL s (y :: r)) = x ++ (s ++ TL.joinL s (y :: r))
    rw [joinL_eq s (y :: r)]
theorem joinL_len (s : List Nat) : ∀ ts : List (List Nat), (joinL s ts).length ≤ (ts.map List.length).sum + ts.length * s.length
  | [] => by simp [joinL]
  | [x] => by simp [joinL]
  | x :: y :: r => by
    have ih := joinL_len s (y :: r)
    show (x ++ (s ++ joinL s (y :: r))).length ≤ _
    rw [List.length_append, List.length_append, List.map_cons, List.sum_cons, List.length_cons, Nat.succ_mul]
    omega
theorem mo_join (hK : X.K = C.K) : MethOk C X "join" strK (m1 joinD) := by
  intro op W σ0 ρ H S d x R r h
  obtain ⟨h0, a, rfl, rfl, hz0⟩ := strK_at r h
  refine ⟨h0, "str", "str.join", F.plainAttrs_str, F.slot_str_join, F.type_str_join, rfl, ?_⟩
  intro pins s σ H2 y ys u us Q I rx rs ⟨ey, ρ2, S2, ds, r1, r2, h2⟩
  subst ey
  obtain ⟨z, v, rfl, rv, h2⟩ := m1_at r2 h2
  obtain ⟨p, xs, vs, rfl, q, h3, l⟩ := seqOf_at rv (show At C W σ0 ρ2 H2 S2 (bnd (seqOf z) fun xs => (match strsOf xs with
      | some ts => bif decide (((ts.map List.length).sum + ts.length * a.length) ≤ SZ) then ret (D.str (joinL a ts)) else err
      | none => err)) _ from h2).bnd
  cases e : strsOf xs with
  | none => rw [e] at h3; exact h3.err.elim
  | some ts =>
    rw [e] at h3
    obtain ⟨hz, h3⟩ := h3.chk
    have hz := of_decide_eq_true hz
    have ev := strs_rep q e
    subst ev
    refine mt_join pins s σ H2 _ _ u us Q I rx rs ⟨SX.S a, p, ts.map SX.S, rfl, rfl, ?_, ?_, ?_⟩
    · rw [hK]
      rcases l with l | l
      · exact .inr l.1
      · exact .inl l
    · rw [SX.lens, List.length_map, SX.S_len]
      exact hz
    · rw [SX.join_S, ← joinL_eq]
      exact fin h3 (.str (Nat.le_trans (joinL_len a ts) hz))
theorem spl_eq (c : Nat) : ∀ (s acc : List Nat), TL.spl [c] 0 acc s = match splitC c s with
    | [] => [acc]
    | p :: ps => (acc ++ p) :: ps
  | [], acc => by show [acc] = [acc ++ []]; rw [List.append_nil]
  | x :: r, acc => by
    unfold splitC
    by_cases h : x = c
    · subst h
      rw [if_pos rfl]
      rw [TL.spl_hit (by unfold TL.pre; simp)]
      show acc :: TL.spl [x] 0 [] r = (acc ++ []) :: splitC x r
      rw [List.append_nil, spl_eq x r []]
      cases e : splitC x r with
      | nil => exact absurd e (splitC_ne x r)
      | cons p ps => simp
    · rw [if_neg h]
      rw [TL.spl_miss (by unfold TL.pre; simp; exact h), spl_eq c r]
      cases e : splitC c r with
      | nil => exact absurd e (splitC_ne c r)
      | cons p ps => simp
where
  splitC_ne (c : Nat) : ∀ s : List Nat, splitC c s ≠ []
    | [] => by simp [splitC]
    | x :: r => by
      unfold splitC
      split
      · simp
      · split <;> simp
theorem splitC_ne (c : Nat) (s : List Nat) : splitC c s ≠ [] := spl_eq.splitC_ne c s
theorem spl_eq0 (c : Nat) (s : List Nat) : TL.spl [c] 0 [] s = splitC c s := by
  rw [spl_eq]
  cases e : splitC c s with
  | nil => exact absurd e (splitC_ne c s)
  | cons p ps => simp
theorem splitC_len (c : Nat) : ∀ s : List Nat, ∀ t ∈ splitC c s, t.length ≤ s.length
  | [], t, h => by
    have e : t = [] := by simpa [splitC] using h
    simp [e]
  | x :: r, t, h => by
    have ih := splitC_len c r
    unfold splitC at h
    split at h
    · rcases List.mem_cons.mp h with h | h
      · simp [h]
      · have := ih t h; simp; omega
    · split at h
      · rename_i e; exact absurd e (splitC_ne c r)
      · rename_i p ps e
        rcases List.mem_cons.mp h with h | h
        · have := ih p (by rw [e]; exact List.mem_cons_self ..)
          rw [h]; simp; omega
        · have := ih t (by rw [e]; exact List.mem_cons_of_mem _ h)
          simp; omega
theorem mo_split : MethOk C X "split" strK (m1 splitD) := by
  intro op W σ0 ρ H S d x R r h
  obtain ⟨h0, a, rfl, rfl, hz0⟩ := strK_at r h
  refine ⟨h0, "str", "str.split", F.plainAttrs_str, F.slot_str_split, F.type_str_split, rfl, ?_⟩
  intro pins s σ H2 y ys u us Q I rx rs ⟨ey, ρ2, S2, ds, r1, r2, h2⟩
  subst ey
  obtain ⟨z, v, rfl, rv, h2⟩ := m1_at r2 h2
  have hz : ∃ c, z = .str [c] := by
    unfold splitD at h2
    split at h2
    · exact ⟨_, rfl⟩
    · exact h2.err.elim
  obtain ⟨c, rfl⟩ := hz
  obtain ⟨ev, _⟩ := rep_str (rv.plain rfl)
  subst ev
  obtain ⟨hz, h2⟩ := (show At C W σ0 ρ2 H2 S2 (bif decide (a.length + 2 ≤ SZ) && decide (c < 256) then newL ((splitC c a).map D.str) else err) _ from h2).chk
  rw [Bool.and_eq_true] at hz
  have hz1 := of_decide_eq_true hz.1
  have hz2 := of_decide_eq_true hz.2
  have hsp : Txt.split (SX.S a) (SX.S [c]) = (splitC c a).map SX.S := by
    rw [SX.split_S (by simp) (by simpa using hz2), spl_eq0]
  refine mt_split pins s σ H2 _ _ u us Q I rx rs ⟨SX.S a, SX.S [c], rfl, rfl, rfl, by rw [SX.S_len]; exact hz1, ?_⟩
  rw [hsp]
  exact fin_new h2 (strs_back fun t ht => Nat.le_trans (splitC_len c a t ht) hz0)
theorem idxC_occ (c : Nat) (s : List Nat) (k : Nat) (h : idxC c s = some k) : ∃ rest, Builtin.Str.occurrences (SX.S s) (SX.S [c]) 0 (SX.S s).length 1 = k :: rest := by
  have at_iff : ∀ i, PySem.StrLaws.At (SX.S s) (SX.S [c]) (SX.S s).length i ↔ s[i]? = some c := fun i => by
    constructor
    · rintro ⟨h1, h2⟩
      exact (PySem.StrLaws.subAt_one (SX.S s) c i).mp ⟨h1, h2⟩
    · intro h
      exact (PySem.StrLaws.subAt_one (SX.S s) c i).mpr h
  have first : ∀ (l : List Nat) (k : Nat), idxC c l = some k → l[k]? = some c ∧ ∀ j, j < k → l[j]? ≠ some c := by
    intro l
    induction l with
    | nil => intro k h; cases h
    | cons x r ih =>
      intro k h
      unfold idxC at h
      split at h
      · rename_i e
        cases h
        exact ⟨by rw [e] <;> rfl, fun j hj => by omega⟩
      · rename_i e
        cases e2 : idxC c r with
        | none => rw [e2] at h; cases h
        | some k' =>
          rw [e2] at h
          cases h
          obtain ⟨q1, q2⟩ := ih k' e2
          refine ⟨q1, fun j hj => ?_⟩
          cases j with
          | zero => intro z; simp at z; exact e z
          | succ j => exact q2 j (Nat.lt_of_succ_lt_succ hj)
  obtain ⟨f1, f2⟩ := first s k h
  rcases PySem.StrLaws.occ_head (SX.S s) (SX.S [c]) 1 (by omega) with ⟨_, hn⟩ | ⟨i, rest, e, ha, hn⟩
  · exact absurd ((at_iff k).mpr f1) (hn k)
  · refine ⟨rest, ?_⟩
    rw [e]
    have hi := (at_iff i).mp ha
    have : i = k := by
      rcases Nat.lt_trichotomy i k with hl | hl | hl
      · exact absurd hi (f2 i hl)
      · exact hl
      · exact absurd ((at_iff k).mpr f1) (hn k hl)
    rw [this]
theorem mo_index : MethOk C X "index" strK (m1 indexD) := by
  intro op W σ0 ρ H S d x R r h
  obtain ⟨h0, a, rfl, rfl, hz0⟩ := strK_at r h
  refine ⟨h0, "str", "str.index", F.plainAttrs_str, F.slot_str_index, F.type_str_index, rfl, ?_⟩
  intro pins s σ H2 y ys u us Q I rx rs ⟨ey, ρ2, S2, ds, r1, r2, h2⟩
  subst ey
  obtain ⟨z, v, rfl, rv, h2⟩ := m1_at r2 h2
  have hz : ∃ c, z = .str [c] := by
    unfold indexD at h2
    split at h2
    · exact ⟨_, rfl⟩
    · exact h2.err.elim
  obtain ⟨c, rfl⟩ := hz
  obtain ⟨ev, _⟩ := rep_str (rv.plain rfl)
  subst ev
  have h2 := (show At C W σ0 ρ2 H2 S2 (match idxC c a with
    | some k => ret (D.int k)
    | none => err) _ from h2)
  cases e : idxC c a with
  | none => rw [e] at h2; exact h2.err.elim
  | some k =>
    rw [e] at h2
    obtain ⟨rest, ho⟩ := idxC_occ c a k e
    exact mt_sindex pins s σ H2 _ _ u us Q I rx rs ⟨SX.S a, SX.S [c], k, rest, rfl, rfl, ho, fin h2 (.int _)⟩
theorem strip_eq (a b : List Nat) : Txt.stripChars (SX.S a) (SX.S b) = SX.S (stripL b a) := by
  have ec : ((SX.S b).cps.contains) = fun x => b.contains x := by
    funext x
    show (b.toArray).contains x = _
    simp
  have elo : PySem.stripLo (SX.S b).cps.contains true (SX.S a) = NB.stripLo b a := by rw [ec] <;> rfl
  have ehi : PySem.stripHi (SX.S b).cps.contains true (SX.S a) (NB.stripLo b a) = NB.stripHi b a := by
    rw [ec]
    show (SX.S a).length - _ = a.length - _
    rw [SX.S_len] <;> rfl
  have hd : PySem.stripped (SX.S b).cps.contains true true (SX.S a) = SX.S (stripL b a) := by
    refine TL.ext_tl ?_
    unfold PySem.stripped
    rw [elo, ehi, TL.tl_strSub] <;> rfl
  show PySem.Txt.stripBy _ _ _ _ = _
  unfold PySem.Txt.stripBy
  split
  · rename_i h
    unfold PySem.stripSame at h
    rw [elo, ehi, Bool.and_eq_true] at h
    have h1 : NB.stripLo b a = 0 := by simpa using h.1
    have h2 : NB.stripHi b a = a.length := by
      have := h.2
      rw [SX.S_len] at this
      simpa using this
    refine TL.ext_tl ?_
    show a = stripL b a
    unfold stripL
    rw [h1, h2]
    simp
  · exact hd
theorem mo_strip : MethOk C X "strip" strK (m1 stripD) := by
  intro op W σ0 ρ H S d x R r h
  obtain ⟨h0, a, rfl, rfl, hz0⟩ := strK_at r h
  refine ⟨h0, "str", "str.strip", F.plainAttrs_str, F.slot_str_strip, F.type_str_strip, rfl, ?_⟩
  intro pins s σ H2 y ys u us Q I rx rs ⟨ey, ρ2, S2, ds, r1, r2, h2⟩
  subst ey
  obtain ⟨z, v, rfl, rv, h2⟩ := m1_at r2 h2
  cases z with
  | str b =>
    obtain ⟨ev, _⟩ := rep_str (rv.plain rfl)
    subst ev
    refine mt_stripChars pins s σ H2 _ _ u us Q I rx rs ⟨SX.S a, SX.S b, rfl, rfl, by rw [SX.S_len, ← sz_eq]; exact hz0, ?_⟩
    rw [strip_eq]
    refine fin h2 (.str ?_)
    unfold stripL
    rw [List.length_take, List.length_drop]
    omega
  | _ => exact h2.err.elim
end
end NB

set_option Elab.async false
set_option linter.all false
set_option maxRecDepth 100000
set_option maxHeartbeats 4000000
/-! Snd8: statements. -/
namespace NB
open PySem PySem.Spec L2
open PyProof.Rows hiding St

/-- the names that may have changed -/
def FrA (A : Nat → Bool) (σ σ' : L2.St) : Prop := σ'.length = σ.length ∧ ∀ i, A i = false → σ'[i]? = σ[i]?
section
variable {A : Nat → Bool} {σ σ1 σ2 : L2.St}
theorem FrA.refl : FrA A σ σ := ⟨rfl, fun _ _ => rfl⟩
theorem FrA.trans (a : FrA A σ σ1) (b : FrA A σ1 σ2) : FrA A σ σ2 := ⟨b.1.trans a.1, fun i h => (b.2 i h).trans (a.2 i h)⟩
theorem FrA.set {i : Nat} {o : Option V} (h : A i = true) : FrA A σ (σ.set i o) := ⟨List.length_set, fun j hj => by
  have hne : i ≠ j := fun e => by rw [e, hj] at h; cases h
  exact List.getElem?_set_ne hne⟩
end
/-- as At, the state may have changed when an exception leaves -/
def AtS {α : Type} (C : Cf) (W : WX) (A : Nat → Bool) (σ : L2.St) (ρ : List Addr) (H : Hp) (S : Store) (m : M α) (R : α → Store → List Addr → Hp → Prop) : Prop :=
  Sim C.K ρ S H ∧ Wp m S (fun a S' => ∀ ρ' H', Lat ρ H ρ' H' → Sim C.K ρ' S' H' → R a S' ρ' H') fun c fs S' => ∀ σ', FrA A σ σ' → EX C W σ' ρ H c fs S'
section
variable {C : Cf} {op : Hot} {W : WX} {A : Nat → Bool} {σ : L2.St} {ρ : List Addr} {H : Hp} {S : Store} {α β : Type} {m : M α} {R R' : α → Store → List Addr → Hp → Prop}
theorem AtS.at (h : AtS C W A σ ρ H S m R) : At C W σ ρ H S m R := ⟨h.1, wp_mono h.2 (fun _ _ q => q) fun _ _ _ q => q σ .refl⟩
theorem AtS.imp (h : AtS C W A σ ρ H S m R) (f : ∀ a S' ρ' H', Lat ρ H ρ' H' → Sim C.K ρ' S' H' → R a S' ρ' H' → R' a S' ρ' H') : AtS C W A σ ρ H S m R' :=
  ⟨h.1, wp_mono h.2 (fun a S' q ρ' H' l s => f a S' ρ' H' l s (q ρ' H' l s)) fun _ _ _ q => q⟩
theorem AtS.bnd {k : α → M β} {R : β → Store → List Addr → Hp → Prop} (h : AtS C W A σ ρ H S (NB.bnd m k) R) : AtS C W A σ ρ H S m fun a S1 ρ1 H1 => ∀ σ1, FrA A σ σ1 → AtS C W A σ1 ρ1 H1 S1 (k a) R := by
  obtain ⟨s, h⟩ := h
  rw [wp_bnd] at h
  exact ⟨s, wp_mono h (fun a S1 q ρ1 H1 l1 s1 σ1 f1 => ⟨s1, wp_mono q (fun b S2 q2 ρ2 H2 l2 s2 => q2 ρ2 H2 (l1.trans l2) s2) fun c fs S' z σ' f' => (z σ' (f1.trans f')).mono l1⟩) fun _ _ _ z => z⟩
theorem AtS.ret {a : α} (h : AtS C W A σ ρ H S (NB.ret a) R) : R a S ρ H := h.2 ρ H .refl h.1
theorem AtS.err (h : AtS C W A σ ρ H S (NB.err : M α) R) : False := h.2
theorem AtS.chk {b : Bool} (h : AtS C W A σ ρ H S (bif b then m else NB.err) R) : b = true ∧ AtS C W A σ ρ H S m R := by
  cases b with
  | true => exact ⟨rfl, h⟩
  | false => exact h.err.elim
/-- the expression's part first -/
theorem AtS.fst {k : α → M β} {R : β → Store → List Addr → Hp → Prop} (h : AtS C W A σ ρ H S (NB.bnd m k) R) : At C W σ ρ H S m fun a S1 ρ1 H1 => AtS C W A σ ρ1 H1 S1 (k a) R :=
  h.bnd.at.imp fun a S1 ρ1 H1 _ _ q => q σ .refl
end
/-- what is wanted behind a statement -/
def ends (C : Cf) (op : Hot) (A : Nat → Bool) (σ : L2.St) (D : Ends) : Fl → Store → List Addr → Hp → Prop := fun f _ ρ' H' => match f with
  | .nx δ' => ∀ σ', FrA A σ σ' → EnvR C op ρ' H' δ' σ' → D.nx σ' H'
  | .bk δ' => ∀ σ', FrA A σ σ' → EnvR C op ρ' H' δ' σ' → D.bk σ' H'
  | .ct δ' => ∀ σ', FrA A σ σ' → EnvR C op ρ' H' δ' σ' → D.ct σ' H'
  | .rt d => ∀ v, RepD C.K ρ' H' d v → D.rt v H'
theorem ends_on {C : Cf} {op : Hot} {A : Nat → Bool} {σ σ1 : L2.St} {D : Ends} {f : Fl} {S : Store} {ρ : List Addr} {H : Hp} (l : FrA A σ σ1) (h : ends C op A σ D f S ρ H) : ends C op A σ1 D f S ρ H := by
  cases f with
  | nx δ => exact fun σ' f e => h σ' (l.trans f) e
  | bk δ => exact fun σ' f e => h σ' (l.trans f) e
  | ct δ => exact fun σ' f e => h σ' (l.trans f) e
  | rt d => exact h
def tS (C : Cf) (op : Hot) (W : WX) (A : Nat → Bool) (m : SS) : TS := fun D σ H => ∃ ρ S δ, EnvR C op ρ H δ σ ∧ AtS C W A σ ρ H S (m δ) (ends C op A σ D)
/-- a target's reading -/
def tG (C : Cf) (op : Hot) (W : WX) (A : Nat → Bool) (g : TG) : L2.TG := fun v σ H Q => ∃ ρ S δ d, EnvR C op ρ H δ σ ∧ RepV C op ρ H d v ∧ AtS C W A σ ρ H S (g d δ) fun δ' _ ρ' H' => ∀ σ', FrA A σ σ' → EnvR C op ρ' H' δ' σ' → Q σ' H'
theorem ps_imp {X : Cx} {e : Stmt} {t t' : TS} (h : PS X e t) (f : ∀ D σ H, t' D σ H → t D σ H) : PS X e t' := ⟨fun pins s σ H D I q => h.run pins s σ H D I (f D σ H q)⟩
theorem pss_imp {X : Cx} {e : List Stmt} {t t' : TS} (h : PSs X e t) (f : ∀ D σ H, t' D σ H → t D σ H) : PSs X e t' := ⟨fun pins s σ H D I q => h.run pins s σ H D I (f D σ H q)⟩
theorem pg_imp {X : Cx} {e : Expr} {t t' : L2.TG} (h : PG X e t) (f : ∀ v σ H Q, t' v σ H Q → t v σ H Q) : PG X e t' := ⟨fun pins s σ H v u Q I r q => h.run pins s σ H v u Q I r (f v σ H Q q)⟩

section
variable {C : Cf} {op : Hot} {W : WX} {A : Nat → Bool} {X : Cx} {st : Stmt} {rest p q : List Stmt} {e c tg : Expr} {ma mb : SS} {me : EE} {tt : TT} {g : TG} {pos pos' : Pos}
theorem gss_nil : PSs X [] (tS C op W A skipS) := pss_imp pss_nil fun D σ H ⟨ρ, S, δ, en, h⟩ => h.ret σ .refl en
theorem gss_one (ha : PS X st (tS C op W A ma)) : PSs X [st] (tS C op W A ma) := pss_one ha
theorem gss_cons (ha : PS X st (tS C op W A ma)) (hb : PSs X rest (tS C op W A mb)) : PSs X (st :: rest) (tS C op W A (seqS ma mb)) := by
  refine pss_imp (pss_cons ha hb) fun D σ H ⟨ρ, S, δ, en, h⟩ => ?_
  refine ⟨ρ, S, δ, en, h.bnd.imp fun f S1 ρ1 H1 l1 s1 h1 => ?_⟩
  cases f with
  | nx δ' => exact fun σ' f' en' => ⟨ρ1, S1, δ', en', (h1 σ' f').imp fun f2 S2 ρ2 H2 l2 s2 h2 => ends_on f' h2⟩
  | bk δ' => exact fun σ' f' en' => (h1 σ .refl).ret σ' f' en'
  | ct δ' => exact fun σ' f' en' => (h1 σ .refl).ret σ' f' en'
  | rt d => exact fun v r => (h1 σ .refl).ret v r
theorem gs_pass : PS X (.Pass pos) (tS C op W A skipS) := ps_imp ps_pass fun D σ H ⟨ρ, S, δ, en, h⟩ => h.ret σ .refl en
theorem gs_break : PS X (.Break pos) (tS C op W A brkS) := ps_imp ps_break fun D σ H ⟨ρ, S, δ, en, h⟩ => h.ret σ .refl en
theorem gs_continue : PS X (.Continue pos) (tS C op W A cntS) := ps_imp ps_continue fun D σ H ⟨ρ, S, δ, en, h⟩ => h.ret σ .refl en
def notComp : Expr → Bool
  | .ListComp _ _ _ _ => false
  | .SetComp _ _ _ _ => false
  | .DictComp _ _ _ _ _ => false
  | _ => true
theorem noswap (h : notComp e = true) (t : Option Expr) (l : Nat) (env : PySem.Env) : swapsWith e t l env = pure false := by
  cases e <;> first
    | rfl
    | (cases h; done)
theorem gs_expr (he : PE X e (tE C op W me)) (h : notComp e = true) : PS X (.Expr e pos) (tS C op W A (exprS me)) :=
  ps_imp (ps_expr he (noswap h _ _ _)) fun D σ H ⟨ρ, S, δ, en, h⟩ => ⟨ρ, S, δ, en, h.fst.imp fun d S1 ρ1 H1 l1 s1 h1 v r => h1.ret σ .refl (en.mono l1)⟩
theorem gs_ret (he : PE X e (tE C op W me)) : PS X (.Return (some e) pos) (tS C op W A (retS me)) := by
  refine ps_imp (ps_ret he) fun D σ H ⟨ρ, S, δ, en, h⟩ => ⟨ρ, S, δ, en, h.fst.imp fun d S1 ρ1 H1 l1 s1 h1 v r => ?_⟩
  cases q : isExc d with
  | true => rw [q] at h1; exact h1.err.elim
  | false => rw [q] at h1; exact h1.ret v (r.plain q)
theorem gs_retN : PS X (.Return none pos) (tS C op W A (retS (cstE .non))) := ps_imp ps_retN fun D σ H ⟨ρ, S, δ, en, h⟩ => AtS.ret (a := Fl.rt .non) h .non .non
theorem gs_if (hc : PT X c (tT C op W tt)) (ha : PSs X p (tS C op W A ma)) (hb : PSs X q (tS C op W A mb)) : PS X (.If c p q pos) (tS C op W A (iteS tt ma mb)) := by
  refine ps_imp (ps_if hc ha hb) fun D σ H ⟨ρ, S, δ, en, h⟩ => ⟨ρ, S, δ, en, h.fst.imp fun k S1 ρ1 H1 l1 s1 h1 => ?_⟩
  cases k with
  | true => exact ⟨ρ1, S1, δ, en.mono l1, h1⟩
  | false => exact ⟨ρ1, S1, δ, en.mono l1, h1⟩
/-! ### targets -/
theorem gg_name {i : Nat} {x : PySem.Str} (hN : X.N.Nodup) (hi : X.N[i]? = some x) (hx : Loc X.env.scope x) (hf : X.fn x = true ∨ X.env.scope.names.lookup x = some .local) (hA : A i = true) : PG X (.Name x pos) (tG C op W A (nameG i)) := by
  refine pg_imp (pg_name hN hi hx hf) fun v σ H Q ⟨ρ, S, δ, d, en, r, h⟩ => ?_
  cases q : isExc d with
  | true => unfold nameG at h; rw [q] at h; exact h.err.elim
  | false =>
    unfold nameG at h
    rw [q] at h
    exact h.ret _ (.set hA) (en.set r)
def tGs (C : Cf) (op : Hot) (W : WX) (A : Nat → Bool) (gs : List TG) : L2.TGs := fun vs σ H Q => ∃ ρ S δ ds, EnvR C op ρ H δ σ ∧ RepVs C op ρ H ds vs ∧ AtS C W A σ ρ H S (eachG gs ds δ) fun δ' _ ρ' H' => ∀ σ', FrA A σ σ' → EnvR C op ρ' H' δ' σ' → Q σ' H'
theorem pgs_imp {X : Cx} {e : List Expr} {t t' : L2.TGs} (h : PGs X e t) (f : ∀ v σ H Q, t' v σ H Q → t v σ H Q) : PGs X e t' := ⟨fun pins s σ H v u Q I r q => h.run pins s σ H v u Q I r (f v σ H Q q)⟩
theorem ggs_nil : PGs X [] (tGs C op W A []) := by
  refine pgs_imp pgs_nil fun vs σ H Q ⟨ρ, S, δ, ds, en, r, h⟩ => ?_
  cases ds with
  | nil =>
    cases vs with
    | nil => exact ⟨rfl, h.ret σ .refl en⟩
    | cons v vs => exact r.elim
  | cons d ds => exact h.err.elim
theorem asg_cons {es : List Expr} (h : notStar e = true) (env : PySem.Env) : assignEach (e :: es) env = (false, assign e env) :: assignEach es env := by
  cases e <;> first
    | rfl
    | (cases h; done)
theorem ggs_cons {es : List Expr} {gs : List TG} (hs : notStar e = true) (h1 : PG X e (tG C op W A g)) (h2 : PGs X es (tGs C op W A gs)) : PGs X (e :: es) (tGs C op W A (g :: gs)) := by
  refine pgs_imp (pgs_cons h1 h2 (by rw [asg_cons hs] <;> rfl)) fun vs σ H Q ⟨ρ, S, δ, ds, en, r, h⟩ => ?_
  cases ds with
  | nil => exact h.err.elim
  | cons d ds =>
    cases vs with
    | nil => exact r.elim
    | cons v vs =>
      refine ⟨v, vs, rfl, ρ, S, δ, d, en, r.1, h.bnd.imp fun δ1 S1 ρ1 H1 l1 s1 h1 σ1 f1 en1 => ?_⟩
      exact ⟨ρ1, S1, δ1, ds, en1, r.2.mono l1, (h1 σ1 f1).imp fun δ2 S2 ρ2 H2 l2 s2 q σ2 f2 en2 => q σ2 (f1.trans f2) en2⟩
theorem asg_nostar : ∀ {es : List Expr}, es.all notStar = true → ∀ env : PySem.Env, (assignEach es env).findIdx? (·.1) = none ∧ (assignEach es env).length = es.length
  | [], _, _ => ⟨rfl, rfl⟩
  | e :: es, h, env => by
    rw [List.all_cons, Bool.and_eq_true] at h
    obtain ⟨q1, q2⟩ := asg_nostar h.2 env
    rw [asg_cons h.1]
    refine ⟨?_, by rw [List.length_cons, q2] <;> rfl⟩
    rw [List.findIdx?_cons]
    rw [q1] <;> rfl
theorem RepL.vs {ρ : List Addr} {H : Hp} : ∀ {ds : List D} {vs : List V}, RepL C.K ρ H ds vs → RepVs C op ρ H ds vs
  | _, _, .nil => trivial
  | _, _, .cons r t => ⟨.inl r, t.vs⟩
theorem gg_tup {es : List Expr} {gs : List TG} {k : Nat} (hK : X.K = C.K) (hc : X.calm = true) (hs : es.all notStar = true) (hl : gs.length = es.length) (h : PGs X es (tGs C op W A gs)) : PG X (.Tuple es k pos) (tG C op W A (tupG gs)) := by
  refine pg_imp (pg_tup (n := gs.length) hc h (by rw [(asg_nostar hs X.env).2, hl]) (asg_nostar hs X.env).1) fun v σ H Q ⟨ρ, S, δ, d, en, r, h⟩ => ?_
  cases d with
  | tup xs =>
    obtain ⟨a, vs, rfl, t, q⟩ := rep_tup (r.plain rfl)
    obtain ⟨hz, h⟩ := h.chk
    have hz := of_decide_eq_true hz
    exact ⟨a, vs, rfl, by rw [hK]; exact t, by rw [q.length]; exact hz, ρ, S, δ, xs, en, q.vs, h⟩
  | _ => exact h.err.elim
/-! ### assignments -/
theorem asg_at {D : Ends} {σ : L2.St} {H : Hp} (h : tS C op W A (setS g me) D σ H) : tAsg (tE C op W me) (tG C op W A g) D σ H := by
  obtain ⟨ρ, S, δ, en, h⟩ := h
  refine ⟨ρ, S, δ, en, h.fst.imp fun d S1 ρ1 H1 l1 s1 h1 v r => ?_⟩
  exact ⟨ρ1, S1, δ, d, en.mono l1, r, h1.bnd.imp fun δ' S2 ρ2 H2 l2 s2 h2 σ' f' en' => (h2 σ .refl).ret σ' f' en'⟩
def noPar : Expr → Expr → Bool
  | .Tuple _ _ _, .Tuple _ _ _ => false
  | .List _ _, _ => false
  | _, _ => true
theorem noswapped (h : noPar tg e = true) (env : PySem.Env) : swappedStores [tg] e env = pure none := by
  cases tg <;> first
    | rfl
    | (cases h; done)
    | (cases e <;> first | rfl | (cases h; done))
theorem gs_set (he : PE X e (tE C op W me)) (hg : PG X tg (tG C op W A g)) (h1 : notComp e = true) (h2 : noPar tg e = true) (h3 : notStar tg = true) : PS X (.Assign [tg] e pos) (tS C op W A (setS g me)) :=
  ps_imp (ps_asg he hg (noswap h1 _ _ _) (noswapped h2 _) (by rw [asg_cons h3] <;> rfl)) fun D σ H h => asg_at h
/-! ### loops -/
theorem gs_while (hp : PassesOwn (model X.prog X.w) X.A X.env X.xe) (hc : PT X c (tT C op W tt)) (hb : PSs X p (tS C op W A ma)) : PS X (.While c p [] pos) (tS C op W A (whileS tt ma)) := by
  refine ps_imp (ps_while hp hc hb) fun D σ H ⟨ρ, S, δ, en, h⟩ => ?_
  refine ⟨fun n σ1 H1 => FrA A σ σ1 ∧ ∃ ρ S δ, EnvR C op ρ H1 δ σ1 ∧ AtS C W A σ1 ρ H1 S (whileGo tt ma n δ) (ends C op A σ1 D), ⟨WF, .refl, ρ, S, δ, en, h⟩, ?_⟩
  rintro n σ1 H1 ⟨f1, ρ1, S1, δ1, en1, h1⟩
  cases n with
  | zero => exact h1.err.elim
  | succ n =>
    refine ⟨ρ1, S1, δ1, en1, (show AtS C W A σ1 ρ1 H1 S1 (bnd (tt δ1) fun c => bif c then bnd (ma δ1) fun f => (match f with
      | .nx δ2 => whileGo tt ma n δ2
      | .ct δ2 => whileGo tt ma n δ2
      | .bk δ2 => ret (.nx δ2)
      | .rt d => ret (.rt d)) else ret (.nx δ1)) _ from h1).fst.imp fun b S2 ρ2 H2 l2 s2 h2 => ?_⟩
    cases b with
    | false => exact h2.ret σ1 .refl (en1.mono l2)
    | true =>
      rw [if_pos rfl]
      refine ⟨fun σ' H' => FrA A σ1 σ' ∧ ∃ ρ S δ, EnvR C op ρ H' δ σ' ∧ AtS C W A σ' ρ H' S (whileGo tt ma n δ) (ends C op A σ' D), fun σ' H' ⟨f', q⟩ => ⟨n, Nat.lt_succ_self _, f1.trans f', q⟩, ρ2, S2, δ1, en1.mono l2, ?_⟩
      refine h2.bnd.imp fun f S3 ρ3 H3 l3 s3 h3 => ?_
      cases f with
      | nx δ' => exact fun σ' f' en' => ⟨f', ρ3, S3, δ', en', (h3 σ' f').imp fun _ _ _ _ _ _ z => ends_on f' z⟩
      | ct δ' => exact fun σ' f' en' => ⟨f', ρ3, S3, δ', en', (h3 σ' f').imp fun _ _ _ _ _ _ z => ends_on f' z⟩
      | bk δ' => exact fun σ' f' en' => (h3 σ1 .refl).ret σ' f' en'
      | rt d => exact fun v r => (h3 σ1 .refl).ret v r
end

/-! ### what is walked -/
/-- J walks what I walks -/
structure ItR (C : Cf) (op : Hot) (I : NB.It) (J : L2.It) (ρ0 : List Addr) (H0 : Hp) : Prop where
  turn : ∀ (W : WX) (σ : L2.St) (ρ : List Addr) (H : Hp) (S : Store) (i : Nat) (R : D → Store → List Addr → Hp → Prop), Lat ρ0 H0 ρ H → i < I.n → At C W σ ρ H S (I.get i) R → J.go i H ∧ ∀ x H', J.yld i H x H' → H' = H ∧ ∃ d, RepV C op ρ H d x ∧ R d S ρ H
  done : ∀ (W : WX) (σ : L2.St) (ρ : List Addr) (H : Hp) (S : Store) (R : Unit → Store → List Addr → Hp → Prop), Lat ρ0 H0 ρ H → At C W σ ρ H S I.fin R → J.stop I.n H ∧ R () S ρ H
def tI (C : Cf) (op : Hot) (W : WX) (m : II) : TI := fun σ H R => ∃ ρ S δ, EnvR C op ρ H δ σ ∧ At C W σ ρ H S (m δ) fun I _ ρ' H' => ∀ J, ItR C op I J ρ' H' → R J H'
section
variable {C : Cf} {op : Hot} {W : WX} {X : Cx} {e tg : Expr} {me : EE} {ms : AA}
theorem itr_range {ρ : List Addr} {H : Hp} {i : Int} {n : Nat} : ItR C op ⟨n, fun k => ret (.int (i + k)), ret ()⟩ (Itr i n) ρ H where
  turn := fun W σ ρ H S k R l hk h => ⟨hk, fun x H' ⟨e1, e2⟩ => ⟨e1, .int (i + k), by rw [e2]; exact .inl (.int _), h.ret⟩⟩
  done := fun W σ ρ H S R l h => ⟨Nat.le_refl _, h.ret⟩
theorem itr_tup (hK : X.K = C.K) {ρ0 : List Addr} {H0 : Hp} {a : Addr} {xs : List D} {vs : List V} (t : SqT C.K H0 a vs) (q : RepL C.K ρ0 H0 xs vs) : ItR C op ⟨xs.length, getT xs, ret ()⟩ (Itt X.K a) ρ0 H0 where
  turn := fun W σ ρ H S k R l hk h => by
    have q' := q.mono l
    have e : xs[k]? = some xs[k] := List.getElem?_eq_getElem hk
    have h : At C W σ ρ H S (getT xs k) R := h
    unfold getT at h
    rw [e] at h
    obtain ⟨v, e2, r⟩ := q'.get e
    refine ⟨⟨vs, v, by rw [hK]; exact l.sqt t, e2⟩, fun x H' ⟨e1, e3⟩ => ⟨e1, xs[k], ?_, h.ret⟩⟩
    have e4 := e3 vs (by rw [hK]; exact l.sqt t)
    rw [e2] at e4
    cases e4
    exact .inl r
  done := fun W σ ρ H S R l h => ⟨⟨vs, by rw [hK]; exact l.sqt t, by rw [q.length]; exact Nat.le_refl _⟩, h.ret⟩
theorem itr_kl (hK : X.K = C.K) {ρ0 : List Addr} {H0 : Hp} {a : Addr} {xs : List D} {vs : List V} (t : KSq C.K H0 a vs) (q : RepL C.K ρ0 H0 xs vs) : ItR C op ⟨xs.length, getT xs, ret ()⟩ (Itl X.K a) ρ0 H0 where
  turn := fun W σ ρ H S k R l hk h => by
    have q' := q.mono l
    have e : xs[k]? = some xs[k] := List.getElem?_eq_getElem hk
    have h : At C W σ ρ H S (getT xs k) R := h
    unfold getT at h
    rw [e] at h
    obtain ⟨v, e2, r⟩ := q'.get e
    refine ⟨⟨vs, v, by rw [hK]; exact (l.ksq t).sql, e2⟩, fun x H' ⟨e1, e3⟩ => ⟨e1, xs[k], ?_, h.ret⟩⟩
    have e4 := e3 vs (by rw [hK]; exact (l.ksq t).sql)
    rw [e2] at e4
    cases e4
    exact .inl r
  done := fun W σ ρ H S R l h => ⟨⟨vs, by rw [hK]; exact (l.ksq t).sql, by rw [q.length]; exact Nat.le_refl _⟩, h.ret⟩
theorem itr_str {ρ0 : List Addr} {H0 : Hp} {s : List Nat} : ItR C op ⟨s.length, getS s, ret ()⟩ (Its ⟨s.toArray⟩) ρ0 H0 where
  turn := fun W σ ρ H S k R l hk h => by
    have e : s[k]? = some s[k] := List.getElem?_eq_getElem hk
    have h : At C W σ ρ H S (getS s k) R := h
    unfold getS at h
    rw [e] at h
    refine ⟨by show k < s.toArray.size; simpa using hk, fun x H' ⟨e1, c, e2, e3⟩ => ⟨e1, .str [s[k]], ?_, h.ret⟩⟩
    have e4 : s[k]? = some c := by simpa using e2
    rw [e] at e4
    cases e4
    rw [e3]
    exact .inl (.str (by show 1 ≤ 16777216; omega))
  done := fun W σ ρ H S R l h => ⟨by show s.toArray.size ≤ s.length; simp, h.ret⟩
theorem itr_list (hK : X.K = C.K) {ρ0 : List Addr} {H0 : Hp} {n m : Nat} {a : Addr} (g : ρ0[n]? = some a) : ItR C op ⟨m, getL n m, finL n m⟩ (Itl X.K a) ρ0 H0 where
  turn := fun W σ ρ H S k R l hk h => by
    have hs := h.1
    obtain ⟨w, ys, e, h⟩ := (show At C W σ ρ H S (bnd (listAt n) fun ys => bif decide (ys.length = m) then (match ys[k]? with
      | some d => ret d
      | none => err) else err) R from h).bnd.listAt
    obtain ⟨hz, h⟩ := h.chk
    have hz := of_decide_eq_true hz
    have hk' : k < ys.length := by rw [hz]; exact hk
    have e2 : ys[k]? = some ys[k] := List.getElem?_eq_getElem hk'
    rw [e2] at h
    obtain ⟨vs, l1, q⟩ := hs.seqAt e (l.get g)
    obtain ⟨v, e3, r⟩ := q.get e2
    refine ⟨⟨vs, v, by rw [hK]; exact l1, e3⟩, fun x H' ⟨e1, e4⟩ => ⟨e1, ys[k], ?_, h.ret⟩⟩
    have e5 := e4 vs (by rw [hK]; exact l1)
    rw [e3] at e5
    cases e5
    exact .inl r
  done := fun W σ ρ H S R l h => by
    have hs := h.1
    obtain ⟨w, ys, e, h⟩ := (show At C W σ ρ H S (bnd (listAt n) fun ys => bif decide (ys.length = m) then ret () else err) R from h).bnd.listAt
    obtain ⟨hz, h⟩ := h.chk
    have hz := of_decide_eq_true hz
    obtain ⟨vs, l1, q⟩ := hs.seqAt e (l.get g)
    exact ⟨⟨vs, by rw [hK]; exact l1, by rw [q.length, hz]; exact Nat.le_refl _⟩, h.ret⟩
theorem gi_seq (hK : X.K = C.K) (he : PE X e (tE C op W me)) : PI X tg e (tI C op W (seqI me)) := by
  refine ⟨fun pins s σ H R I ⟨ρ, S, δ, en, h⟩ => ?_⟩
  refine thn (he.run pins s σ H (fun x H1 => ∃ ρ1 S1 d, RepV C op ρ1 H1 d x ∧ At C W σ ρ1 H1 S1 (itOf d) fun I _ ρ' H' => ∀ J, ItR C op I J ρ' H' → R J H') I ⟨ρ, S, δ, en, h.bnd.imp fun d S1 ρ1 H1 l1 s1 h1 v r => ⟨ρ1, S1, d, r, h1⟩⟩)
    fun u s1 ⟨x, H1, I1, r1, ρ1, S1, d, r, h1⟩ => ?_
  cases d with
  | str z =>
    obtain ⟨e1, _⟩ := rep_str (r.plain rfl)
    subst e1
    obtain ⟨t, rfl⟩ := r1
    have q := h1.ret _ itr_str
    cases ha : (⟨z.toArray⟩ : PySem.Str).cps.all (· < 128)
    · exact wpAny_pyIter_wide ha (pi_one (tk := s1.toks) I1 _ (turn_str _ ⟨z.toArray⟩ t "str_iterator" (.inr rfl)) ⟨_, Heap.get?_push_size _ rfl, rfl, rfl⟩ q)
    · exact wpAny_pyIter_ascii ha (pi_one (tk := s1.toks) I1 _ (turn_str _ ⟨z.toArray⟩ t "str_ascii_iterator" (.inl rfl)) ⟨_, Heap.get?_push_size _ rfl, rfl, rfl⟩ q)
  | tup xs =>
    obtain ⟨a, vs, rfl, t, q⟩ := rep_tup (r.plain rfl)
    cases r1
    have q' := h1.ret _ (itr_tup hK t q)
    obtain ⟨its, rv, p, hz⟩ := I1.tuple (by rw [hK]; exact t)
    exact wpAny_pyIter_tuple (show s1.heap.IsTuple a its.toArray from p) (pi_one (tk := s1.toks) I1 _ (turn_tuple a _) ⟨_, Heap.get?_push_size _ rfl, rfl, rfl⟩ q')
  | kl xs =>
    obtain ⟨a, vs, rfl, t, q⟩ := rep_kl (r.plain rfl)
    cases r1
    have q' := h1.ret _ (itr_kl hK t q)
    obtain ⟨its, rv, p, hz⟩ := I1.list (by rw [hK]; exact t.sql)
    exact wpAny_pyIter_list p.isList (pi_one (tk := s1.toks) I1 _ (turn_list a _) ⟨_, Heap.get?_push_size _ rfl, rfl, rfl⟩ q')
  | loc n =>
    obtain ⟨a, rfl, g⟩ := rep_loc (r.plain rfl)
    cases r1
    have hs := h1.1
    obtain ⟨w, ys, e1, h1⟩ := (show At C W σ ρ1 H1 S1 (bnd (listAt n) fun xs => ret (⟨xs.length, getL n xs.length, finL n xs.length⟩ : NB.It)) _ from h1).bnd.listAt
    have q' := h1.ret _ (itr_list hK g)
    obtain ⟨vs, l1, q⟩ := hs.seqAt e1 g
    obtain ⟨its, rv, p, hz⟩ := I1.list (by rw [hK]; exact l1)
    exact wpAny_pyIter_list p.isList (pi_one (tk := s1.toks) I1 _ (turn_list a _) ⟨_, Heap.get?_push_size _ rfl, rfl, rfl⟩ q')
  | _ => exact h1.err.elim
theorem rg_ok {j : Int} (h : rgOk j = true) : -(2 ^ 62) ≤ j ∧ j < 2 ^ 62 := by
  unfold rgOk at h
  rw [Bool.and_eq_true] at h
  exact ⟨of_decide_eq_true h.1, of_decide_eq_true h.2⟩
theorem gi_range1 {a : Expr} {p pos : Pos} (hg : Gl X "range") (hm : X.mg "range" = none) (ha : PA X [a] (tA C op W ms)) (hs : [a].all notStar = true) : PI X tg (.Call (.Name "range" p) [a] [] pos) (tI C op W (rangeI1 ms)) := by
  refine ⟨fun pins s σ H R I ⟨ρ, S, δ, en, h⟩ => ?_⟩
  have h1 : notStar a = true := by rw [List.all_cons, Bool.and_eq_true] at hs; exact hs.1
  refine (pi_range1 (tg := tg) (p := p) (pos := pos) hg hm ha (star_cons h1 [] _)).run pins s σ H R I ⟨ρ, S, δ, en, h.bnd.imp fun ds S1 ρ1 H1 l1 s1 h1 vs r => ?_⟩
  have hd : ∃ j, ds = [.int j] := by
    unfold rangeIt1 at h1
    split at h1
    · exact ⟨_, rfl⟩
    · exact h1.err.elim
  obtain ⟨j, rfl⟩ := hd
  match vs, r with
  | [v], r =>
    cases rep_int (r.1.plain rfl)
    obtain ⟨hz, h1⟩ := h1.chk
    obtain ⟨z1, z2⟩ := rg_ok hz
    exact ⟨j, rfl, z1, z2, h1.ret _ itr_range⟩
  | [], r => exact r.elim
  | _ :: _ :: _, r => exact r.2.elim
theorem gi_range2 {a b : Expr} {p pos : Pos} (hg : Gl X "range") (hm : X.mg "range" = none) (ha : PA X [a, b] (tA C op W ms)) (hs : [a, b].all notStar = true) : PI X tg (.Call (.Name "range" p) [a, b] [] pos) (tI C op W (rangeI2 ms)) := by
  refine ⟨fun pins s σ H R I ⟨ρ, S, δ, en, h⟩ => ?_⟩
  have h1 : notStar a = true ∧ notStar b = true := by simpa using hs
  refine (pi_range2 (tg := tg) (p := p) (pos := pos) hg hm ha (by rw [star_cons h1.1, star_cons h1.2] <;> rfl) (star_cons h1.2 [] _)).run pins s σ H R I ⟨ρ, S, δ, en, h.bnd.imp fun ds S1 ρ1 H1 l1 s1 h1 vs r => ?_⟩
  have hd : ∃ i j, ds = [.int i, .int j] := by
    unfold rangeIt2 at h1
    split at h1
    · exact ⟨_, _, rfl⟩
    · exact h1.err.elim
  obtain ⟨i, j, rfl⟩ := hd
  obtain ⟨v, w, rfl, r1, r2⟩ := two_at r rfl
  cases rep_int (r1.plain rfl); cases rep_int (r2.plain rfl)
  obtain ⟨hz, h1⟩ := h1.chk
  rw [Bool.and_eq_true] at hz
  obtain ⟨z1, z2⟩ := rg_ok hz.1
  obtain ⟨z3, z4⟩ := rg_ok hz.2
  exact ⟨i, j, rfl, ⟨z1, z2, z3, z4⟩, h1.ret _ itr_range⟩
end

/-! ### for -/
section
variable {C : Cf} {op : Hot} {W : WX} {A : Nat → Bool} {X : Cx} {body : List Stmt} {tg iter : Expr} {mb : SS} {mi : II} {g : TG} {pos : Pos}
def notSet : Expr → Bool
  | .Set _ _ _ => false
  | _ => true
theorem noset (h : notSet iter = true) (env : PySem.Env) : ∀ x, foldedSetIterable iter env x = pure x := by
  cases iter <;> first
    | (intro x; rfl)
    | (cases h; done)
theorem for_at {D : Ends} {σ : L2.St} {H : Hp} {wi : TI} (hw : ∀ σ H R, tI C op W mi σ H R → wi σ H R) (h : tS C op W A (forS mi g mb) D σ H) : tFor wi (tG C op W A g) (tS C op W A mb) D σ H := by
  obtain ⟨ρ, S, δ, en, h⟩ := h
  refine hw _ _ _ ⟨ρ, S, δ, en, h.fst.imp fun I S0 ρ0 H0 l0 s0 h0 J ir => ?_⟩
  refine ⟨fun i m σ1 H1 => i + m = I.n ∧ FrA A σ σ1 ∧ ∃ ρ1 S1 δ1, Lat ρ0 H0 ρ1 H1 ∧ EnvR C op ρ1 H1 δ1 σ1 ∧ AtS C W A σ1 ρ1 H1 S1 (forGo I g mb m i δ1) (ends C op A σ1 D), ⟨I.n, Nat.zero_add _, .refl, ρ0, S0, δ, .refl, en.mono l0, h0⟩, ?_⟩
  rintro i m σ1 H1 ⟨hn, f1, ρ1, S1, δ1, la, en1, h1⟩
  cases m with
  | zero =>
    have ei : i = I.n := by omega
    subst ei
    obtain ⟨st, q⟩ := ir.done W σ1 ρ1 H1 S1 _ la (show AtS C W A σ1 ρ1 H1 S1 (bnd I.fin fun _ => ret (Fl.nx δ1)) (ends C op A σ1 D) from h1).fst
    exact .inl ⟨st, q.ret σ1 .refl en1⟩
  | succ m =>
    have h1 := (show AtS C W A σ1 ρ1 H1 S1 (bnd (I.get i) fun d => bnd (g d δ1) fun δ1 => bnd (mb δ1) fun f => match f with
      | .nx δ2 => forGo I g mb m (i + 1) δ2
      | .ct δ2 => forGo I g mb m (i + 1) δ2
      | .bk δ2 => ret (.nx δ2)
      | .rt d => ret (.rt d)) (ends C op A σ1 D) from h1).fst
    obtain ⟨go, y⟩ := ir.turn W σ1 ρ1 H1 S1 i _ la (by omega) h1
    refine .inr ⟨go, fun σ2 H2 => FrA A σ1 σ2 ∧ ∃ ρ2 S2 δ2, Lat ρ0 H0 ρ2 H2 ∧ EnvR C op ρ2 H2 δ2 σ2 ∧ AtS C W A σ2 ρ2 H2 S2 (forGo I g mb m (i + 1) δ2) (ends C op A σ2 D), fun σ2 H2 ⟨f2, q⟩ => ⟨m, Nat.lt_succ_self _, by omega, f1.trans f2, q⟩, fun x H' yl => ?_⟩
    obtain ⟨rfl, d, r, q⟩ := y x H' yl
    refine ⟨ρ1, S1, δ1, d, en1, r, q.bnd.imp fun δ2 S2 ρ2 H2 l2 s2 h2 σ2 f2 en2 => ?_⟩
    refine ⟨ρ2, S2, δ2, en2, (h2 σ2 f2).bnd.imp fun f S3 ρ3 H3 l3 s3 h3 => ?_⟩
    cases f with
    | nx δ' => exact fun σ' f' en' => ⟨f2.trans f', ρ3, S3, δ', (la.trans l2).trans l3, en', (h3 σ' f').imp fun _ _ _ _ _ _ z => ends_on (f2.trans f') z⟩
    | ct δ' => exact fun σ' f' en' => ⟨f2.trans f', ρ3, S3, δ', (la.trans l2).trans l3, en', (h3 σ' f').imp fun _ _ _ _ _ _ z => ends_on (f2.trans f') z⟩
    | bk δ' => exact fun σ' f' en' => (h3 σ2 .refl).ret σ' (f2.trans f') en'
    | rt d => exact fun v r => (h3 σ2 .refl).ret v r
theorem gs_for (hp : PassesOwn (model X.prog X.w) X.A X.env X.xe) (hc : X.calm = true) (hi : PI X tg iter (tI C op W mi)) (hg : PG X tg (tG C op W A g)) (hb : PSs X body (tS C op W A mb)) (hs : notSet iter = true) :
    PS X (.For tg iter body [] pos) (tS C op W A (forS mi g mb)) := ps_imp (ps_for hp hc hi hg hb (noset hs _)) fun D σ H h => for_at (fun _ _ _ z => z) h
end
end NB

set_option Elab.async false
set_option linter.all false
set_option maxRecDepth 100000
set_option maxHeartbeats 4000000
/-! Snd9: items stored, comprehensions. -/
namespace NB
open PySem PySem.Spec L2
open PyProof.Rows hiding St

section
variable {C : Cf} {op : Hot} {W : WX} {A : Nat → Bool} {X : Cx} {o i e : Expr} {mo mi me : EE} {pos pos' : Pos}
theorem noExc_get {xs : List D} {k : Nat} {d : D} (h : noExc xs = true) (e : xs[k]? = some d) : isExc d = false := by
  unfold noExc at h
  have := List.all_eq_true.mp h d (List.mem_of_getElem? e)
  simpa using this
theorem sub_at {D' : Ends} {σ : L2.St} {H : Hp} (h : tS C op W A (subS mo mi me) D' σ H) : tAsg (tE C op W me) (gSub (tE C op W mo) (tE C op W mi) rSetL) D' σ H := by
  obtain ⟨ρ, S, δ, en, h⟩ := h
  refine ⟨ρ, S, δ, en, h.fst.imp fun d S1 ρ1 H1 l1 s1 h1 v r1 => ?_⟩
  refine ⟨ρ1, S1, δ, en.mono l1, h1.fst.imp fun x S2 ρ2 H2 l2 s2 h2 w r2 => ?_⟩
  refine ⟨ρ2, S2, δ, (en.mono l1).mono l2, h2.fst.imp fun k S3 ρ3 H3 l3 s3 h3 z r3 => ?_⟩
  have r1 := (r1.mono l2).mono l3
  have r2 := r2.mono l3
  have en := ((en.mono l1).mono l2).mono l3
  cases x with
  | loc n =>
    cases k with
    | int j =>
      obtain ⟨p, rfl, g⟩ := rep_loc (r2.plain rfl)
      cases rep_int (r3.plain rfl)
      obtain ⟨xs, e0, h4⟩ := (show At C W σ ρ3 H3 S3 (bnd (listW n) fun xs => (match ixOf j xs.length with
        | some k => putL n (xs.set k d)
        | none => err)) _ from h3.fst).bnd.listW
      obtain ⟨vs, lp, q⟩ := s3.wAt e0 g
      cases e1 : ixOf j xs.length with
      | none => rw [e1] at h4; exact h4.err.elim
      | some m =>
        rw [e1] at h4
        obtain ⟨_, _, hn, _⟩ := h4.putL
        have hm : m < xs.length := by
          unfold ixOf at e1
          split at e1
          · split at e1
            · cases e1; omega
            · cases e1
          · split at e1
            · cases e1; omega
            · cases e1
        have nd : isExc d = false := noExc_get hn (List.getElem?_set_self hm)
        have h5 := h4.putL_at g (q.set m (r1.plain nd))
        refine ⟨p, vs, j, m, rfl, rfl, lp, by rw [q.length]; exact e1, ?_⟩
        exact h5.ret σ .refl (en.mono (.write g lp))
    | _ => exact h3.fst.err.elim
  | _ => exact h3.fst.err.elim
theorem gs_sub (he : PE X e (tE C op W me)) (ho : PE X o (tE C op W mo)) (hi : PE X i (tE C op W mi)) (h1 : notComp e = true) (h2 : plainIx i = true)
    : PS X (.Assign [.Subscript o i pos'] e pos) (tS C op W A (subS mo mi me)) :=
  ps_imp (ps_asg he (pg_sub ho hi set_list (by
    intro v
    cases i <;> first
      | rfl
      | (cases h2; done))) (noswap h1 (some (.Subscript o i pos')) pos.line X.env) (noswapped (by cases e <;> rfl) _) rfl) fun D σ H h => sub_at h
end

/-! ### comprehensions -/
/-- no exception is wanted -/
def W0 : WX := fun _ _ _ _ => False
section
variable {C : Cf} {op : Hot} {A : Nat → Bool} {σ σ' : L2.St} {ρ : List Addr} {H : Hp} {S : Store} {α : Type} {m : M α} {R : α → Store → List Addr → Hp → Prop}
theorem At.any (h : At C W0 σ ρ H S m R) : At C W0 σ' ρ H S m R := h
theorem At.s (h : At C W0 σ ρ H S m R) : AtS C W0 A σ' ρ H S m R := ⟨h.1, wp_mono h.2 (fun _ _ q => q) fun _ _ _ q _ _ => q⟩
theorem wp_calm {Q : α → Store → Prop} {E : Nat → List D → Store → Prop} (h : Wp (calm m) S Q E) : Wp m S Q fun _ _ _ => False := by
  unfold Wp calm at h
  unfold Wp
  cases q : m S with
  | ok a S' => rw [q] at h; exact h
  | exc c f S' => rw [q] at h; exact h.elim
  | bad => rw [q] at h; exact h.elim
theorem wipe_get (σ : L2.St) (vs : List Nat) (i : Nat) : (wipe σ vs)[i]? = if i ∈ vs then (if i < σ.length then some none else none) else σ[i]? := by
  induction vs with
  | nil => simp [wipe]
  | cons v vs ih =>
    unfold wipe
    by_cases h : v = i
    · subst h
      rw [if_pos (List.mem_cons_self ..)]
      by_cases hl : v < σ.length
      · rw [if_pos hl, List.getElem?_set_self (by rw [wipe_length]; exact hl)]
      · rw [if_neg hl, List.getElem?_eq_none (by rw [List.length_set, wipe_length]; omega)]
    · rw [List.getElem?_set_ne h, ih]
      have : i ∈ v :: vs ↔ i ∈ vs := by
        rw [List.mem_cons]
        exact ⟨fun z => z.elim (fun e => absurd e.symm h) id, .inr⟩
      simp only [this]
theorem wipe_eq {vs : List Nat} {σ2 : L2.St} (h : FrA (fun i => vs.contains i) (wipe σ vs) σ2) : wipe σ2 vs = wipe σ vs := by
  refine List.ext_getElem? fun i => ?_
  rw [wipe_get, wipe_get]
  have hl : σ2.length = σ.length := by rw [h.1, wipe_length]
  by_cases hi : i ∈ vs
  · rw [if_pos hi, if_pos hi, hl]
  · rw [if_neg hi, if_neg hi]
    have := h.2 i (by simpa using hi)
    rw [this, wipe_get, if_neg hi]
theorem EnvR.wipe {δ : Env} (h : EnvR C op ρ H δ σ) : ∀ vs : List Nat, EnvR C op ρ H (forget δ vs) (L2.wipe σ vs)
  | [] => h
  | v :: vs => (EnvR.wipe h vs).unset
end
section
variable {C : Cf} {op : Hot} {W : WX} {A : Nat → Bool} {X : Cx} {elt tg iter c : Expr} {ifs : List Expr} {scope : Scope} {own : List (PySem.Str × Nat)} {pos spos py : Pos} {me : EE} {mt : TT} {mi : II} {g : TG}
theorem lc_at {vs : List Nat} {σ : L2.St} {H : Hp} {Q : VK} (h : tE C op W (compE vs mi g mt me) σ H Q) : tLc (tI C op W mi) (tG C op W0 (fun i => vs.contains i) g) (tT C op W0 mt) (tE C op W0 me) vs σ H Q := by
  obtain ⟨ρ, S, δ, en, h⟩ := h
  refine ⟨ρ, S, δ, en, (show At C W σ ρ H S (bnd (mi δ) fun I S => bnd (calm (collect I S.length g mt me (forget δ vs) I.n 0)) (fun _ => ret (D.loc S.length)) (S ++ [.lst true []])) _ from h).bnd.imp fun I S0 ρ0 H0 l0 s0 h0 J ir L hL => ?_⟩
  obtain ⟨_, h0⟩ := h0
  have la : Lat ρ0 H0 (ρ0 ++ [L]) (upd H0 L (.lst [])) := .grow hL
  have s1 : Sim C.K (ρ0 ++ [L]) (S0 ++ [.lst true []]) (upd H0 L (.lst [])) := s0.grow hL ⟨[], upd_same, .nil⟩
  have gL : (ρ0 ++ [L])[S0.length]? = some L := by rw [← s0.len]; simp
  have h1 : Wp (bnd (calm (collect I S0.length g mt me (forget δ vs) I.n 0)) (fun _ => ret (D.loc S0.length))) (S0 ++ [.lst true []]) (fun d S' => ∀ ρ' H', Lat ρ0 H0 ρ' H' → Sim C.K ρ' S' H' → ∀ v, RepV C op ρ' H' d v → Q v H') (EX C W σ ρ0 H0) := h0
  rw [wp_bnd] at h1
  have h2 := wp_calm h1
  have a1 : At C W0 (wipe σ vs) (ρ0 ++ [L]) (upd H0 L (.lst [])) (S0 ++ [.lst true []]) (collect I S0.length g mt me (forget δ vs) I.n 0) (fun _ _ ρ' H' => ∀ v, RepV C op ρ' H' (.loc S0.length) v → Q v H') :=
    ⟨s1, wp_mono h2 (fun _ S' q ρ' H' l s v r => q ρ' H' (la.trans l) s v r) fun _ _ _ z => z.elim⟩
  have en0 : EnvR C op (ρ0 ++ [L]) (upd H0 L (.lst [])) (forget δ vs) (wipe σ vs) := ((en.mono l0).mono la).wipe vs
  refine ⟨fun i m H1 => i + m = I.n ∧ ∃ ρ1 S1, Lat (ρ0 ++ [L]) (upd H0 L (.lst [])) ρ1 H1 ∧ At C W0 (wipe σ vs) ρ1 H1 S1 (collect I S0.length g mt me (forget δ vs) m i) (fun _ _ ρ' H' => ∀ v, RepV C op ρ' H' (.loc S0.length) v → Q v H'), ⟨I.n, Nat.zero_add _, _, _, .refl, a1⟩, ?_⟩
  rintro i m H1 ⟨hn, ρ1, S1, l1, h3⟩
  cases m with
  | zero =>
    have ei : i = I.n := by omega
    subst ei
    obtain ⟨st, q⟩ := ir.done W0 _ ρ1 H1 S1 _ (la.trans l1) h3
    exact .inl ⟨st, q _ (.inl (.loc (l1.get gL)))⟩
  | succ m =>
    obtain ⟨go, y⟩ := ir.turn W0 _ ρ1 H1 S1 i _ (la.trans l1) (by omega) (show At C W0 (wipe σ vs) ρ1 H1 S1 (bnd (I.get i) fun d => bnd (g d (forget δ vs)) fun δ1 => bnd (mt δ1) fun b =>
      bif b then bnd (me δ1) fun y => bnd (pushL S0.length y) fun _ => collect I S0.length g mt me (forget δ vs) m (i + 1) else collect I S0.length g mt me (forget δ vs) m (i + 1)) _ from h3).bnd
    refine .inr ⟨go, fun H2 => ∃ ρ2 S2, Lat (ρ0 ++ [L]) (upd H0 L (.lst [])) ρ2 H2 ∧ At C W0 (wipe σ vs) ρ2 H2 S2 (collect I S0.length g mt me (forget δ vs) m (i + 1)) (fun _ _ ρ' H' => ∀ v, RepV C op ρ' H' (.loc S0.length) v → Q v H'),
      fun H2 ⟨ρ2, S2, l2, q⟩ => ⟨m, Nat.lt_succ_self _, by omega, ρ2, S2, l2, q⟩, fun x H' yl => ?_⟩
    obtain ⟨rfl, d, r, q⟩ := y x H' yl
    refine ⟨ρ1, S1, forget δ vs, d, en0.mono l1, r, (q.bnd.s (A := fun i => vs.contains i)).imp fun δ2 S2 ρ2 H2 l2 s2 h4 σ2 f2 en2 => ?_⟩
    refine ⟨wipe_eq f2, ρ2, S2, δ2, en2, h4.bnd.any.imp fun b S3 ρ3 H3 l3 s3 h5 => ?_⟩
    cases b with
    | false => exact ⟨ρ3, S3, (l1.trans l2).trans l3, h5⟩
    | true =>
      rw [if_pos rfl]
      refine ⟨ρ3, S3, δ2, en2.mono l3, h5.bnd.any.imp fun d2 S4 ρ4 H4 l4 s4 h6 y2 r2 => ?_⟩
      have l5 := ((l1.trans l2).trans l3).trans l4
      obtain ⟨xs, e0, h7⟩ := (show At C W0 (wipe σ vs) ρ4 H4 S4 (bnd (listW S0.length) fun xs => putL S0.length (xs ++ [d2])) _ from h6.bnd).bnd.listW
      obtain ⟨acc, lp, q2⟩ := s4.wAt e0 (l5.get gL)
      obtain ⟨_, _, hx, hz, _⟩ := h7.putL
      have hn2 : isExc d2 = false := by
        unfold noExc at hx
        rw [List.all_append, Bool.and_eq_true] at hx
        simpa using hx.2
      have h8 := h7.putL_at (l5.get gL) (q2.append (.cons (r2.plain hn2) .nil))
      refine ⟨acc, lp, ?_, ρ4, _, l5.trans (.write (l5.get gL) lp), h8⟩
      rw [q2.length]
      rw [List.length_append] at hz
      exact hz
/-- the names of a block, checked -/
def blkB (N : List PySem.Str) (sc scope : Scope) (own : List (PySem.Str × Nat)) : Bool :=
  decide (scope.kind = .function) && (scope.names.all fun y => scope.names.lookup y.1 == some y.2) && (own.all fun p => N[p.2]? == some p.1) &&
  (scope.names.all fun y => !(y.2 == .free) || (sc.names.lookup y.1 == some .cell || sc.names.lookup y.1 == some .free)) &&
  (scope.names.all fun y => !(y.2 == .local || y.2 == .cell) || ((own.map (·.1)).contains y.1 || !(N.contains y.1)))
theorem blkB_ok {N : List PySem.Str} {sc scope : Scope} {own : List (PySem.Str × Nat)} (h : blkB N sc scope own = true) : BlkOk N sc scope own := by
  unfold blkB at h
  simp only [Bool.and_eq_true, List.all_eq_true] at h
  obtain ⟨⟨⟨⟨h1, h2⟩, h3⟩, h4⟩, h5⟩ := h
  refine ⟨of_decide_eq_true h1, fun y hy => by simpa using h2 y hy, fun p hp => by simpa using h3 p hp, fun y hy e => ?_, fun y hy e => ?_⟩
  · have := h4 y hy
    rw [e] at this
    simpa using this
  · have := h5 y hy
    rcases e with e | e <;> rw [e] at this <;> simpa using this
theorem pts_imp {X : Cx} {e : List Expr} {t t' : L2.TT} (h : PTs X e t) (f : ∀ σ H Q, t' σ H Q → t σ H Q) : PTs X e t' := ⟨fun pins s σ H Q I q => h.run pins s σ H Q I (f σ H Q q)⟩
theorem gts_nil : PTs X [] (tT C op W yesT) := pts_imp pts_nil fun σ H Q ⟨ρ, S, δ, en, h⟩ => h.ret
theorem gts_one (h : PT X c (tT C op W mt)) : PTs X [c] (tT C op W mt) := pts_one h
theorem ge_lc (hc : X.calm = true) (hN : X.N.Nodup) (hi : PI X tg iter (tI C op W mi)) (ok : blkB X.N X.env.scope scope own = true)
    (hg : ∀ (s : Shared) (H : Hp) (C' : Addr) (cl : List (PySem.Str × Addr)) (fp : List Addr), PG (X.blk s H scope (compEnvC scope cl C' X.env) fp) tg (tG C op W0 (fun i => (own.map (·.2)).contains i) g))
    (ht : ∀ (s : Shared) (H : Hp) (C' : Addr) (cl : List (PySem.Str × Addr)) (fp : List Addr), PTs (X.blk s H scope (compEnvC scope cl C' X.env) fp) ifs (tT C op W0 mt))
    (he : ∀ (s : Shared) (H : Hp) (C' : Addr) (cl : List (PySem.Str × Addr)) (fp : List Addr), PE (X.blk s H scope (compEnvC scope cl C' X.env) fp) elt (tE C op W0 me)) (hs : notSet iter = true) :
    PE X (.ListComp elt [⟨tg, iter, ifs, 0⟩] scope pos) (tE C op W (compE (own.map (·.2)) mi g mt me)) :=
  pe_imp (pe_lc hc hN hi (blkB_ok ok) hg ht he (noset hs _)) fun σ H Q h => lc_at h
/-- does the name's store come first -/
def swB (sc scope : Scope) (y : PySem.Str) (py pos : Pos) : Bool := sc.names.lookup y == some .local && py.line == pos.line && !(scope.names.any fun (n, k) => n == y && (k == .local || k == .cell))
theorem swB_eq {gs : List Comprehension} {y : PySem.Str} {l : Nat} (hk : X.env.scope.kind = .function) : swapsWith (.ListComp elt gs scope pos) (some (.Name y py)) l X.env = pure (swB X.env.scope scope y py pos) := by
  have hb : X.env.blockKind = .function := by unfold Env.blockKind; rw [hk] <;> rfl
  unfold swapsWith
  simp only [hb, Expr.pos]
  rfl
theorem gs_setC {i : Nat} {y : PySem.Str} (hk : X.env.scope.kind = .function) (hc : X.calm = true) (hN : X.N.Nodup) (hy : X.N[i]? = some y) (hyl : Loc X.env.scope y) (hf : X.fn y = true ∨ X.env.scope.names.lookup y = some .local) (hA : A i = true) (hi : PI X tg iter (tI C op W mi)) (ok : blkB X.N X.env.scope scope own = true)
    (hg : ∀ (s : Shared) (H : Hp) (C' : Addr) (cl : List (PySem.Str × Addr)) (fp : List Addr), PG (X.blk s H scope (compEnvC scope cl C' X.env) fp) tg (tG C op W0 (fun i => (own.map (·.2)).contains i) g))
    (ht : ∀ (s : Shared) (H : Hp) (C' : Addr) (cl : List (PySem.Str × Addr)) (fp : List Addr), PTs (X.blk s H scope (compEnvC scope cl C' X.env) fp) ifs (tT C op W0 mt))
    (he : ∀ (s : Shared) (H : Hp) (C' : Addr) (cl : List (PySem.Str × Addr)) (fp : List Addr), PE (X.blk s H scope (compEnvC scope cl C' X.env) fp) elt (tE C op W0 me)) (hs : notSet iter = true) :
    PS X (.Assign [.Name y py] (.ListComp elt [⟨tg, iter, ifs, 0⟩] scope pos) spos) (tS C op W A (setS (nameG i) (compE (own.map (·.2)) mi g mt me))) := by
  have hsw := swB_eq (X := X) (elt := elt) (scope := scope) (pos := pos) (py := py) (gs := [⟨tg, iter, ifs, 0⟩]) (y := y) (l := spos.line) hk
  cases e : swB X.env.scope scope y py pos with
  | true =>
    rw [e] at hsw
    have hl : X.env.scope.names.lookup y = some .local := by
      unfold swB at e
      rw [Bool.and_eq_true, Bool.and_eq_true] at e
      simpa using e.1.1
    refine ps_imp (ps_setLc (own := own) hc hN hy hl hsw hi (blkB_ok ok) hg ht he (noset hs _)) fun D σ H h => ?_
    have h2 := asg_at h
    refine lc_at ?_
    obtain ⟨ρ, S, δ, en, h2⟩ := h2
    refine ⟨ρ, S, δ, en, h2.imp fun d S1 ρ1 H1 l1 s1 q v r => ?_⟩
    obtain ⟨ρ2, S2, δ2, d2, en2, r2, q⟩ := q v r
    cases z : isExc d2 with
    | true => unfold nameG at q; rw [z] at q; exact q.err.elim
    | false =>
      unfold nameG at q
      rw [z] at q
      exact q.ret _ (.set hA) (en2.set r2)
  | false =>
    rw [e] at hsw
    refine ps_imp (ps_asg (ge_lc (own := own) (op := op) (W := W) hc hN hi ok hg ht he hs) (gg_name (C := C) (op := op) (W := W) (A := A) hN hy hyl hf hA) ?_ (noswapped rfl _) rfl) fun D σ H h => asg_at h
    exact hsw
end
end NB

set_option Elab.async false
set_option linter.all false
set_option maxRecDepth 100000
set_option maxHeartbeats 4000000
/-! Snd10: isinstance, an exception's fields. -/
namespace NB
open PySem PySem.Spec L2
open PyProof.Rows hiding St

/-! ### classes as values -/
def kname : Kd → String
  | .int => "int" | .bool => "bool" | .str => "str" | .tuple => "tuple" | .list => "list" | .dict => "dict" | .verr => "ValueError" | .cls _ => ""
def kV (C : Cf) : Kd → V
  | .cls c => .ref (C.cad c)
  | k => .ty (kname k)
def kU (C : Cf) : Kd → Value
  | .cls c => .ref (C.cad c)
  | k => .type (kname k)
theorem k_clsv (C : Cf) (k : Kd) : ClsV (kV C k) (kU C k) := by
  cases k with
  | cls c => exact .own _
  | _ => exact .ty _
def tyNames : List String := ["NoneType", "bool", "int", "str", "tuple", "list"]
/-- what the written part says of the own error classes -/
structure KC (C : Cf) : Prop where
  tyc : ∀ T ∈ tyNames, ∀ c, c < C.nc → PySem.W.kitOne C.K (.type T) (.ref (C.cad c)) = some false
  cty : ∀ c, c < C.nc → ∀ T ∈ ["int", "bool", "str", "tuple", "list", "dict"], PySem.W.kitOne C.K (.ref (C.cad c)) (.type T) = some false
  cv : ∀ c, c < C.nc → PySem.W.kitOne C.K (.ref (C.cad c)) (.type "ValueError") = some true
  cc : ∀ c, c < C.nc → ∀ c', c' < C.nc → PySem.W.kitOne C.K (.ref (C.cad c)) (.ref (C.cad c')) = some (subC c c')
  ex : ∀ c, c < C.nc → ExcC C.K (C.cad c)
  xm : ∀ c, c < C.nc → ∀ c', c' < C.nc → PySem.W.exmOne C.K (.ref (C.cad c)) (.ref (C.cad c')) = some (subC c c')
def kdOk (C : Cf) : Kd → Bool
  | .cls c => decide (c < C.nc)
  | _ => true
def tyD : D → String
  | .non => "NoneType" | .bl _ => "bool" | .int _ => "int" | .str _ => "str" | .tup _ => "tuple" | .loc _ => "list" | .kl _ => "list" | .exc _ _ => ""
def tyI : D → Nat
  | .non => 0 | .bl _ => 1 | .int _ => 2 | .str _ => 3 | .tup _ => 4 | .loc _ => 5 | .kl _ => 5 | .exc _ _ => 6
def kds : List Kd := [.int, .bool, .str, .tuple, .list, .dict, .verr]
def kexp : Nat → Kd → Bool
  | 1, .int => true | 2, .int => true | 1, .bool => true | 3, .str => true | 4, .tuple => true | 5, .list => true | _, _ => false
theorem kit_tab0 : ((List.range 6).all fun i => kds.all fun k => decide (kitB (tyNames.getD i "") (kname k) = some (kexp i k))) = true := by decide +kernel
theorem kit_tab (i : Nat) (hi : i < 6) (k : Kd) (hk : k ∈ kds) : kitB (tyNames.getD i "") (kname k) = some (kexp i k) := by
  have h := List.all_eq_true.mp kit_tab0 i (List.mem_range.mpr hi)
  exact of_decide_eq_true (List.all_eq_true.mp h k hk)
theorem tyI_lt {d : D} (h : isExc d = false) : tyI d < 6 := by cases d <;> first | (cases h; done) | simp [tyI]
theorem tyD_eq {d : D} (h : isExc d = false) : tyD d = tyNames.getD (tyI d) "" := by cases d <;> first | (cases h; done) | rfl
section
variable {C : Cf} {op : Hot} {W : WX} {X : Cx} {ρ : List Addr} {H : Hp} {S : Store}
theorem tup_tyx (hK : X.K = C.K) {a : Addr} {vs : List V} (t : SqT C.K H a vs) : TyX X.K H (.ref a) (.type "tuple") := by
  rcases t with (h | ⟨o, h⟩) | h
  · exact .base (.tup h)
  · exact .fTuple h
  · obtain ⟨o, its, n, h1, h2, _⟩ := h
    rw [hK]
    exact .kTuple h1 h2
theorem lst_tyx (hK : X.K = C.K) {a : Addr} {vs : List V} (t : SqL C.K H a vs) : TyX X.K H (.ref a) (.type "list") := by
  rcases t with (h | ⟨o, h⟩) | h
  · exact .base (.lst h)
  · exact .base (.frz h)
  · obtain ⟨o, its, n, h1, h2, _⟩ := h
    rw [hK]
    exact .kList h1 h2
/-- a plain value's type -/
theorem tyx_of (hK : X.K = C.K) (hs : Sim C.K ρ S H) {d : D} {v : V} (r : RepD C.K ρ H d v) (hl : ∀ n, d = .loc n → ∃ w xs, S[n]? = some (.lst w xs)) : TyX X.K H v (.type (tyD d)) ∧ tyD d ∈ tyNames := by
  cases r with
  | non => exact ⟨.base .non, by simp [tyD, tyNames]⟩
  | bl b => exact ⟨.base (.bl b), by simp [tyD, tyNames]⟩
  | int i => exact ⟨.base (.int i), by simp [tyD, tyNames]⟩
  | str hz => exact ⟨.base (.str _), by simp [tyD, tyNames]⟩
  | tup h q => exact ⟨tup_tyx hK h, by simp [tyD, tyNames]⟩
  | kl h q => exact ⟨lst_tyx hK h.sql, by simp [tyD, tyNames]⟩
  | loc g =>
    obtain ⟨w, xs, e⟩ := hl _ rfl
    obtain ⟨vs, l, _⟩ := hs.seqAt e g
    exact ⟨lst_tyx hK l, by simp [tyD, tyNames]⟩
def isCls : Kd → Bool
  | .cls _ => true
  | _ => false
theorem kds_mem {k : Kd} (h : isCls k = false) : k ∈ kds := by
  cases k <;> first
    | (cases h; done)
    | simp [kds]
theorem kU_of {k : Kd} (h : isCls k = false) : kU C k = .type (kname k) := by
  cases k <;> first
    | (cases h; done)
    | rfl
theorem isK_of {d : D} {k : Kd} (h : isCls k = false) (hd : isExc d = false) (hl : ∀ n, d = .loc n → ∃ w xs, S[n]? = some (.lst w xs)) : isK S d k = kexp (tyI d) k := by
  cases d with
  | loc n =>
    obtain ⟨w, xs, e⟩ := hl n rfl
    cases k <;> first
      | (cases h; done)
      | rfl
      | (unfold isK; simp only [e] <;> rfl)
  | exc c fs => cases hd
  | _ =>
    cases k <;> first
      | (cases h; done)
      | rfl
theorem kit_one (kc : KC C) (hK : X.K = C.K) {d : D} (hd : isExc d = false) (ht : tyD d ∈ tyNames) (hl : ∀ n, d = .loc n → ∃ w xs, S[n]? = some (.lst w xs)) {k : Kd} (hk : kdOk C k = true) : PySem.W.kitOne X.K (.type (tyD d)) (kU C k) = some (isK S d k) := by
  cases z : isCls k with
  | false =>
    rw [kU_of z]
    refine kit_ty ?_
    rw [tyD_eq hd, kit_tab (tyI d) (tyI_lt hd) k (kds_mem z), isK_of z hd hl]
  | true =>
    cases k with
    | cls c =>
      rw [hK, show kU C (.cls c) = .ref (C.cad c) from rfl, kc.tyc _ ht c (of_decide_eq_true hk)]
      cases d with
      | loc n =>
        obtain ⟨w, xs, e⟩ := hl n rfl
        show some false = some (match S[n]? with | some (.ins c' _) => c' == c | _ => false)
        rw [e]
      | exc c fs => cases hd
      | _ => rfl
    | _ => cases z
theorem kit_any {t : Value} : ∀ {ks : List Kd} {f : Kd → Bool}, (∀ k ∈ ks, PySem.W.kitOne X.K t (kU C k) = some (f k)) → PySem.W.kitAny X.K t (ks.map (kU C)) = some (ks.any f)
  | [], _, _ => kitAny_nil
  | k :: ks, f, h => by
    refine kitAny_cons (h k (List.mem_cons_self ..)) (fun e => ?_) fun e => ?_
    · rw [List.any_cons, e, Bool.false_or]
      exact kit_any fun k' hk => h k' (List.mem_cons_of_mem _ hk)
    · rw [List.any_cons, e, Bool.true_or]
theorem kit_exc (kc : KC C) (hK : X.K = C.K) {c : Nat} {fs : List D} (hc : c < C.nc) {k : Kd} (hk : kdOk C k = true) : PySem.W.kitOne X.K (.ref (C.cad c)) (kU C k) = some (isK S (.exc c fs) k) := by
  rw [hK]
  cases k with
  | cls c' => exact kc.cc c hc c' (of_decide_eq_true hk)
  | verr => exact kc.cv c hc
  | int => exact kc.cty c hc "int" (by simp)
  | bool => exact kc.cty c hc "bool" (by simp)
  | str => exact kc.cty c hc "str" (by simp)
  | tuple => exact kc.cty c hc "tuple" (by simp)
  | list => exact kc.cty c hc "list" (by simp)
  | dict => exact kc.cty c hc "dict" (by simp)
/-- the exception that is handled is pinned -/
def OpIn (op : Hot) (X : Cx) : Prop := ∀ p, op = some p → p ∈ X.pn
theorem exc_inst {pins : List (Addr × Obj)} {s : Shared} {σ : L2.St} {c : Nat} {fs : List D} {v : V} (I : Inv X pins σ H s) (hp : OpIn op X) (r : RepX C op ρ H c fs v) : ∃ (p : Addr × Obj) (od : Option Obj), v = .ref p.1 ∧ c < C.nc ∧ PySem.W.InstAt s.heap p.1 p.2 (C.cad c) od ∧ p.2.dict = p.2.dict ∧
    ((od = none ∧ fs = []) ∨ ∃ (fvs : List (PySem.Str × V)) (mA : PySem.Str → Option Value) (o : Obj), od = some o ∧ (∀ name, PySem.W.lookIn name o = some (mA name)) ∧ (∀ f, RelO (fvs.lookup f) (mA f)) ∧ fs.length = (C.cfl c).length ∧
      ∀ (k : Nat) (x : PySem.Str) (d : D), (C.cfl c)[k]? = some x → fs[k]? = some d → ∃ v, List.lookup x fvs = some v ∧ RepD C.K ρ H d v) := by
  obtain ⟨p, e1, e2, hc, h1, ⟨vs, h2⟩, h3⟩ := r
  obtain ⟨hget, _⟩ := I.pin p (List.mem_append_left _ (hp p e1))
  obtain ⟨a, oe⟩ := p
  obtain ⟨oc, od, oda, osl⟩ := oe
  dsimp only at h1 h2 h3 hget
  subst h1 h2
  cases od with
  | none => exact ⟨_, none, e2, hc, ⟨hget, rfl, rfl, trivial⟩, rfl, .inl ⟨rfl, h3⟩⟩
  | some dd =>
    obtain ⟨fvs, hx, h4, h5⟩ := h3
    have hx2 : ObjOk X.prog X.w H s.heap dd (.xd fvs) := I.hok dd _ hx
    obtain ⟨mA, hns, hr⟩ := hx2
    obtain ⟨o, ho, hl⟩ := lookIn_ns hns
    exact ⟨_, some o, e2, hc, ⟨hget, rfl, rfl, ho⟩, rfl, .inr ⟨fvs, mA, o, rfl, hl, hr, h4, h5⟩⟩
end
/-! ### isinstance -/
/-- a class's name, as an argument -/
def ClsE (C : Cf) (X : Cx) (e : Expr) (k : Kd) : Prop := kdOk C k = true ∧ PE X e (tC (kV C k)) ∧ notStar e = true
section
variable {C : Cf} {op : Hot} {W : WX} {X : Cx} {a e : Expr} {es : List Expr} {ma : EE} {p pos : Pos} {k : Kd} {ks : List Kd}
def ClsEs (C : Cf) (X : Cx) : List Expr → List Kd → Prop
  | [], [] => True
  | e :: es, k :: ks => ClsE C X e k ∧ ClsEs C X es ks
  | _, _ => False
theorem clses_pa : ∀ {es : List Expr} {ks : List Kd}, ClsEs C X es ks → PA X es (fun _ H Q => Q (ks.map (kV C)) H) ∧ (∀ k ∈ ks, kdOk C k = true)
  | [], [], _ => ⟨pa_imp pa_nil fun σ H Q h => h, fun _ h => by cases h⟩
  | e :: es, k :: ks, h => by
    obtain ⟨q1, q2⟩ := clses_pa h.2
    refine ⟨pa_imp (pa_cons h.1.2.1 q1 (star_cons h.1.2.2 es _)) fun σ H Q h => h, fun k' hk => ?_⟩
    rcases List.mem_cons.mp hk with e | hk
    · rw [e]; exact h.1.1
    · exact q2 k' hk
  | [], _ :: _, h => h.elim
  | _ :: _, [], h => h.elim
/-- isinstance's answer about the value of d -/
theorem isi_at (kc : KC C) (hK : X.K = C.K) (hp : OpIn op X) {pins : List (Addr × Obj)} {s : Shared} {σ σ0 : L2.St} {ρ : List Addr} {H : Hp} {S : Store} {d : D} {x : V} {u u2 : Value} {Q : VK} (I : Inv X pins σ H s) (rx : RelV x u) (hks : ∀ k ∈ ks, kdOk C k = true)
    (r : RepV C op ρ H d x) (h : At C W σ0 ρ H S (isiD ks d) fun d _ ρ' H' => ∀ v, RepV C op ρ' H' d v → Q v H')
    (go : ∀ (P : Heap → Prop) (t : Value), PySem.W.KitX X.K u t P → P s.heap → u ≠ .builtin "__main__.__loader__#opaque" → ∀ b, PySem.W.kitAny X.K t (ks.map (kU C)) = some b → (∀ tk, EP X pins σ Q (.bool b) { s with toks := tk }) → wpAny (model X.prog X.w) X.A (call (.builtin "isinstance") [u, u2]) (EP X pins σ Q) X.xe s) :
    wpAny (model X.prog X.w) X.A (call (.builtin "isinstance") [u, u2]) (EP X pins σ Q) X.xe s := by
  have hq : Q (.bl (ks.any fun k => isK S d k)) H := h.2 ρ H .refl h.1 _ (.inl (.bl _))
  cases hd : isExc d with
  | true =>
    cases d with
    | exc c fs =>
      rcases r with r | ⟨c', fs', e, r⟩
      · cases r
      · cases e
        obtain ⟨q, od, e1, hc, J, _, _⟩ := exc_inst I hp r
        subst e1
        obtain rfl : u = Value.ref q.1 := rx
        have ec := kc.ex c hc
        rw [← hK] at ec
        have hcl : (PySem.W.clsIn X.K (C.cad c)).isSome = true := by
          obtain ⟨cd, e, _⟩ := PySem.W.any_some ec.hd
          rw [e] <;> rfl
        exact go _ _ (PySem.W.kitx_exc hcl ec.hg ec.hk ec.hs ec.ha ec.hn ec.ht ec.hm) J (fun z => nomatch z) _ (kit_any fun k hk => kit_exc (S := S) (fs := fs) kc hK hc (hks k hk)) fun tk => ⟨.bl _, H, I.kept (t' := tk) fun _ _ z => z, rfl, hq⟩
    | _ => cases hd
  | false =>
    have hl : ∀ n, d = .loc n → ∃ w xs, S[n]? = some (.lst w xs) := fun n e => by
      subst e
      obtain ⟨a, _, g⟩ := rep_loc (r.plain rfl)
      have hn : n < S.length := by rw [← h.1.len]; exact (List.getElem?_eq_some_iff.mp g).1
      have e2 : S[n]? = some S[n] := List.getElem?_eq_getElem hn
      have ro := h.1.obj n _ a e2 g
      cases e3 : S[n] with
      | lst w xs => exact ⟨w, xs, by rw [e2, e3]⟩
      | dic kvs => rw [e3] at ro; exact ro.elim
      | ins c fs => rw [e3] at ro; exact ro.elim
    obtain ⟨ty, ht⟩ := tyx_of hK h.1 (r.plain hd) hl
    obtain ⟨P, Z, pz, hx⟩ := kit_of I rx ty
    exact go P _ Z pz hx _ (kit_any fun k hk => kit_one kc hK hd ht hl (hks k hk)) fun tk => ⟨.bl _, H, I.kept (t' := tk) fun _ _ z => z, rfl, hq⟩
theorem boot_isi : bootBuiltins "isinstance" = some (.builtin "isinstance") := by decide +kernel
/-- isinstance(a, c) -/
theorem ge_isi (kc : KC C) (hK : X.K = C.K) (hp : OpIn op X) (hg : Gl X "isinstance") (hm : X.mg "isinstance" = none) (ha : PE X a (tE C op W ma)) (h1 : notStar a = true) (hc : ClsE C X e k) : PE X (.Call (.Name "isinstance" p) [a, e] [] pos) (tE C op W (op1E (isiD [k]) ma)) := by
  refine ⟨fun pins s σ H Q I h => ?_⟩
  have hr : CallR X (.builtin "isinstance") (fun xs H Q => ∃ ρ S d x, xs = [x, kV C k] ∧ RepV C op ρ H d x ∧ At C W σ ρ H S (isiD [k] d) fun d _ ρ' H' => ∀ v, RepV C op ρ' H' d v → Q v H') := by
    intro pins s σ' H xs us Q I r ⟨ρ, S, d, x, ex, rv, h⟩
    subst ex
    obtain ⟨u1, u2, rfl, r1, r2⟩ := vals2 r
    have e2 := (k_clsv C k).eq r2
    subst e2
    refine isi_at (W := W) (σ0 := σ) (ks := [k]) kc hK hp I r1 (fun k' hk => ?_) rv h fun P t Z pz hx b hb hq => ?_
    · have : k' = k := by simpa using hk
      rw [this]; exact hc.1
    · have hb1 : PySem.W.kitOne X.K t (kU C k) = some b := by
        have hb' : PySem.W.kitAny X.K t [kU C k] = some b := hb
        unfold PySem.W.kitAny at hb'
        cases q : PySem.W.kitOne X.K t (kU C k) with
        | none => rw [q] at hb'; cases hb'
        | some b' =>
          rw [q] at hb'
          cases b' with
          | true => exact hb'
          | false => exact hb'
      exact PySem.W.kia_one Z I.kIn pz hb1 hx hq
  have pa : PA X [a, e] (tCons (tE C op W ma) (tCons (tC (kV C k)) tNil)) := pa_cons ha (pa_cons hc.2.1 pa_nil (star_cons hc.2.2 [] _)) (star_cons h1 _ _)
  have hs : notStar e = true := hc.2.2
  refine (pe_callB hr hg hm boot_isi pa (by decide) (by decide) (star_cons h1 _ _) (by rw [star_cons hs] <;> rfl)).run pins s σ H Q I ?_
  obtain ⟨ρ, S, δ, en, h⟩ := h
  exact ⟨ρ, S, δ, en, h.bnd.imp fun d S1 ρ1 H1 l1 s1 h1 x r1 => ⟨ρ1, S1, d, x, rfl, r1, h1⟩⟩
/-- isinstance(a, (c1, c2, ..)) -/
theorem ge_isiT {j : Nat} {pt : Pos} (kc : KC C) (hK : X.K = C.K) (hp : OpIn op X) (hg : Gl X "isinstance") (hm : X.mg "isinstance" = none) (ha : PE X a (tE C op W ma)) (h1 : notStar a = true) (hc : ClsEs C X es ks) (hn : ks.length ≤ sizeLine) :
    PE X (.Call (.Name "isinstance" p) [a, .Tuple es j pt] [] pos) (tE C op W (op1E (isiD ks) ma)) := by
  refine ⟨fun pins s σ H Q I h => ?_⟩
  obtain ⟨pes, hks⟩ := clses_pa hc
  have hr : CallR X (.builtin "isinstance") (fun xs H Q => ∃ ρ S d x tp, xs = [x, .ref tp] ∧ H tp = some (.tup (ks.map (kV C))) ∧ RepV C op ρ H d x ∧ At C W σ ρ H S (isiD ks d) fun d _ ρ' H' => ∀ v, RepV C op ρ' H' d v → Q v H') := by
    intro pins s σ' H xs us Q I r ⟨ρ, S, d, x, tp, ex, hT, rv, h⟩
    subst ex
    obtain ⟨u1, u2, rfl, r1, r2⟩ := vals2 r
    cases (show u2 = Value.ref tp from r2)
    refine isi_at (W := W) (σ0 := σ) (ks := ks) kc hK hp I r1 hks rv h fun P t Z pz hx b hb hq => ?_
    obtain ⟨_, its, rvs, o, g1, g2, n, g3⟩ := (show ObjOk X.prog X.w H s.heap tp (.tup (ks.map (kV C))) from I.hok tp _ hT)
    have hpair : Paired ClsV (ks.map (kV C)) (ks.map (kU C)) := pair_of ks
    have e3 := ClsV.all hpair rvs
    subst e3
    obtain ⟨oc, od, dt, sl⟩ := o
    simp only at g2 g3
    subst g2 g3
    exact PySem.W.kia_tup Z I.kIn pz g1 hb hx hq
  have pa : PA X [a, .Tuple es j pt] (tCons (tE C op W ma) (tCons (tTup fun _ H Q => Q (ks.map (kV C)) H) tNil)) := pa_cons ha (pa_cons (pe_tup pes) pa_nil rfl) (star_cons h1 _ _)
  refine (pe_callB hr hg hm boot_isi pa (by decide) (by decide) (star_cons h1 _ _) rfl).run pins s σ H Q I ?_
  obtain ⟨ρ, S, δ, en, h⟩ := h
  refine ⟨ρ, S, δ, en, h.bnd.imp fun d S1 ρ1 H1 l1 s1 h1 x r1 => ⟨by rw [List.length_map]; exact hn, fun q hq => ?_⟩⟩
  have l : Lat ρ1 H1 ρ1 (upd H1 q (.tup (ks.map (kV C)))) := .upd_new hq
  refine ⟨ρ1, S1, d, x, q, rfl, upd_same, r1.mono l, h1.1.beside hq, ?_⟩
  exact wp_mono h1.2 (fun a S2 z ρ' H' l2 s2 => z ρ' H' (l.trans l2) s2) fun _ _ _ z => z.mono l
where
  pair_of : ∀ ks : List Kd, Paired ClsV (ks.map (kV C)) (ks.map (kU C))
    | [] => .nil
    | k :: ks => .cons (k_clsv C k) (pair_of ks)
/-! ### e.f -/
/-- the classes that have the field f, with its place -/
def FldOk (C : Cf) (f : PySem.Str) (t : List (Nat × Nat)) : Prop := ∀ c k, t.lookup c = some k → (C.cfl c)[k]? = some f ∧ PySem.W.findIn C.K (.ref (C.cad c)) f = some none
theorem ge_fld {f : PySem.Str} {t : List (Nat × Nat)} (kc : KC C) (hK : X.K = C.K) (hp : OpIn op X) (ht : FldOk C f t) (ha : PE X a (tE C op W ma)) (hb : attributeBase a f X.env (eval a X.env) = eval a X.env) : PE X (.Attribute a f pos) (tE C op W (op1E (xfldD t) ma)) := by
  refine ⟨fun pins s σ H Q I h => ?_⟩
  obtain ⟨ρ, S, δ, en, h⟩ := h
  refine attr_of hb (thn (ha.run pins s σ H (fun x H1 => ∃ ρ1 S1 d, RepV C op ρ1 H1 d x ∧ At C W σ ρ1 H1 S1 (xfldD t d) fun d _ ρ' H' => ∀ v, RepV C op ρ' H' d v → Q v H') I ⟨ρ, S, δ, en, h.bnd.imp fun d S1 ρ1 H1 l1 s1 h1 x r1 => ⟨ρ1, S1, d, r1, h1⟩⟩)
    fun u s1 ⟨x, H1, I1, rx, ρ1, S1, d, r, h1⟩ => ?_)
  cases d with
  | exc c fs =>
    rcases r with r | ⟨c', fs', e, r⟩
    · cases r
    · cases e
      have h1 := (show At C W σ ρ1 H1 S1 (match t.lookup c with
        | some k => (match fs[k]? with
          | some v => ret v
          | none => err)
        | none => err) _ from h1)
      cases e1 : t.lookup c with
      | none => rw [e1] at h1; exact h1.err.elim
      | some k =>
        rw [e1] at h1
        dsimp only at h1
        cases e2 : fs[k]? with
        | none => rw [e2] at h1; exact h1.err.elim
        | some v =>
          rw [e2] at h1
          obtain ⟨q, od, e3, hc, J, _, hf⟩ := exc_inst I1 hp r
          subst e3
          obtain rfl : u = Value.ref q.1 := rx
          rcases hf with ⟨_, e4⟩ | ⟨fvs, mA, o, e4, hl, hr, hlen, hget⟩
          · rw [e4] at e2; simp at e2
          · subst e4
            obtain ⟨g1, g2⟩ := ht c k e1
            obtain ⟨w, g3, g4⟩ := hget k f v g1 e2
            obtain ⟨u', hu, ru⟩ := RelO.some_of (v := w) (o := mA f) (by rw [← g3]; exact hr f)
            have ec := kc.ex c hc
            rw [← hK] at ec g2
            exact HandSPX.exc_get I1.kIn J ec.hg ec.hk ec.hs (PySem.W.findObj_own ec.hd g2 rfl (by rw [hl, hu])) (handed_of ru) ⟨w, H1, I1.tok _, ru, h1.ret w (.inl g4)⟩
  | _ => exact h1.err.elim
end
end NB

set_option Elab.async false
set_option linter.all false
set_option maxRecDepth 100000
set_option maxHeartbeats 4000000
/-! Snd11: defs, their calls; raise; try. -/
namespace NB
open PySem PySem.Spec L2
open PyProof.Rows hiding St

/-- the wish of a def's exceptions, whatever the slots -/
def wOf (E : XK) : WX := fun c d _ H => E c d H
/-- what the def f promises at fuel n -/
def spOf (C : Cf) (T : NB.Tab) (n f np : Nat) (op : Hot) : Sp := fun vs H Q E => vs.length = np ∧ ∃ ρ S ds, RepVs C op ρ H ds vs ∧ At C (wOf E) [] ρ H S (callF T n f ds) fun d _ ρ' H' => ∀ v, RepD C.K ρ' H' d v → Q v H'
/-- as FnH, the promise tells of the handled exception -/
structure FnX (P : Program) (w : World) (K : PySem.W.Frag) (mg : PySem.Str → Option Value) (base : Heap) (CX : CXT) (k : Nat) (f : Addr) (fd : FuncData) (ps : List PySem.Str) (sp : Hot → Sp) : Prop where
  len : ∀ op vs H Q E, sp op vs H Q E → vs.length = ps.length
  run : ∀ (A : Around) (outer : List PySem.Env) (s : Shared) (H : Hp) (args : Args) (us : List Value) (vs : List V) (Q : VK) (E : XK) (p : Addr × Obj), L2H.RoomH k A → L2H.Hot1 A p → L2H.PinOk outer H s p → Env0 P w K mg base A outer s H → BindsTo s fd args (ps.zip us) → Vals vs us → sp (some p) vs H Q E →
    codeAny (model P w) A (.call (.ref f) args) (CR CX outer P w H s Q E) s
/-- the rule for a def that is called while an exception is handled -/
theorem fnX_of {CX : CXT} {P : Program} {w : World} {K : PySem.W.Frag} {mg : PySem.Str → Option Value} {base : Heap} {k : Nat} {f : Addr} {x qual : PySem.Str} {params : Arguments} {body : List Stmt} {scope : Scope} {dvs : List V} {kws : List (PySem.Str × V)} {fd : FuncData} {N ps : List PySem.Str} {sp : Hot → Sp}
    (F : FunD K x qual params body scope dvs kws f fd) (S : FnScope N ps scope) (len : ∀ op vs H Q E, sp op vs H Q E → vs.length = ps.length)
    (hbody : ∀ (cdv : Value) (A : Around) (outer : List PySem.Env) (s : Shared) (H : Hp) (vs : List V) (Q : VK) (E : XK) (p : Addr × Obj), L2H.Hot1 A p → L2H.RoomH k (A.deeper (envOfC qual scope s.heap.objs.size f cdv)) → sp (some p) vs H Q E →
      ∃ t, PSs (L2H.cxH CX P w K mg base N qual scope f cdv A outer s H E p) body t ∧ t { nx := fun _ H' => Q .non H', rt := Q } (L2.start N vs) H) : FnX P w K mg base CX (k + 1) f fd ps sp := by
  obtain ⟨oc, od, dV, kV, doc, pm, an, cdv, ct, osl, rfl, lk, hcd, _, _⟩ := F.ex
  refine ⟨len, fun A outer s H args us vs Q E p hr hot hpin e0 hb r hsp => ?_⟩
  have hk : ∀ y ∈ ps.zip us, scope.names.lookup y.1 = some .local ∨ (scope.names.lookup y.1 = some .cell ∧ ((cellsFrom (s.heap.objs.size + 1) scope.names []).lookup y.1).isSome = true) := by
    rintro ⟨n, v⟩ hy
    have hn : n ∈ ps := (List.of_mem_zip hy).1
    exact (S.par n hn).imp id fun q => ⟨q, PySem.W.cellsFrom_some _ _ _ (.inl q)⟩
  have old : ∀ b o, base.get? b = some o → s.heap.get? b = some o := fun b o e => (e0.bs b o e).1
  refine codeAny_call_function hr.depth (e0.mod.kin.keeps old _ _ lk) rfl S.co S.gen rfl (PySem.W.codeRec_of (e0.mod.kin.keeps old) hcd) (hb _ _ _ _ (wpAny_newFunctionEnv_cells S.kind hk fun env he s1 xx => ?_))
  subst he
  refine ⟨(e0.mod.nolimit.keeps old).keeps xx.toInCall.keep, codeAny_func ?_⟩
  obtain ⟨t, ht, hq⟩ := hbody cdv A outer s H vs Q E p hot (hr.deeper _) hsp
  have I := L2H.inv_startH (CX := CX) (E := E) S hpin e0 (len _ _ _ _ _ hsp) r xx
  refine wpAny_mono (ht.run [] s1 _ H _ I hq) (fun fl s' hs => ?_) fun _ _ z => z
  cases fl with
  | next =>
    obtain ⟨σ', H', J, q⟩ := hs
    exact ⟨V.non, H', J.os, J.bare, J.base, J.hok, rfl, q⟩
  | ret u =>
    obtain ⟨v, σ', H', J, rv, q⟩ := hs
    exact ⟨v, H', J.os, J.bare, J.base, J.hok, rv, q⟩
  | brk => exact hs.elim fun _ z => z.elim fun _ z => z.2.elim
  | cont => exact hs.elim fun _ z => z.elim fun _ z => z.2.elim
/-- the context bears p -/
def HotP (X : Cx) (p : Addr × Obj) : Prop := L2H.Hot1 X.A p ∧ p ∈ X.pn
/-- a callee, called by its name where nothing is handled -/
def CalmOk (C : Cf) (T : NB.Tab) (P : Program) (w : World) (mg : PySem.Str → Option Value) (base : Heap) (n : Nat) (x : PySem.Str) (f : Nat) (dfl : List D) : Prop :=
  ∃ (a : Addr) (fd : FuncData) (ps : List PySem.Str) (ds : List Value) (dvs : List V), mg x = some (.ref a) ∧ PySem.W.keepIn C.K (.ref a) = true ∧ FnOk P w C.K mg base (L2N.CX P w) (n + 2) a fd ps (spOf C T n f ps.length none) ∧ Vals dvs ds ∧ Binds C.K fd ps ds ∧
    (∀ op ρ H, RepVs C op ρ H dfl dvs) ∧ ∃ fn, T f = some fn ∧ fn.np = ps.length
/-- .. where an exception is handled -/
def HotOk (C : Cf) (T : NB.Tab) (P : Program) (w : World) (mg : PySem.Str → Option Value) (base : Heap) (n : Nat) (x : PySem.Str) (f : Nat) (dfl : List D) : Prop :=
  ∃ (a : Addr) (fd : FuncData) (ps : List PySem.Str) (ds : List Value) (dvs : List V), mg x = some (.ref a) ∧ PySem.W.keepIn C.K (.ref a) = true ∧ FnX P w C.K mg base (L2N.CX P w) (n + 2) a fd ps (fun op => spOf C T n f ps.length op) ∧ Vals dvs ds ∧ Binds C.K fd ps ds ∧
    (∀ op ρ H, RepVs C op ρ H dfl dvs) ∧ ∃ fn, T f = some fn ∧ fn.np = ps.length
section
variable {C : Cf} {op : Hot} {T : NB.Tab} {W : WX} {X : Cx} {e : Expr} {es : List Expr} {ms : AA} {n f : Nat} {dfl : List D} {x : PySem.Str} {q pos : Pos}
theorem RepVs.app {ρ : List Addr} {H : Hp} : ∀ {ds es : List D} {vs us : List V}, RepVs C op ρ H ds vs → RepVs C op ρ H es us → RepVs C op ρ H (ds ++ es) (vs ++ us)
  | [], _, [], _, _, q => q
  | _ :: _, _, _ :: _, _, h, q => ⟨h.1, RepVs.app h.2 q⟩
  | [], _, _ :: _, _, h, _ => h.elim
  | _ :: _, _, [], _, h, _ => h.elim
theorem call_len_at {n : Nat} {S : Store} {ds : List D} {fn : Fn} {Q : D → Store → Prop} {E : Nat → List D → Store → Prop} (hT : T f = some fn) (h : Wp (callF T n f ds) S Q E) : ds.length = fn.np := by
  cases n with
  | zero => exact h.elim
  | succ n =>
    unfold callF at h
    rw [hT] at h
    dsimp only at h
    rw [wp_chk] at h
    exact of_decide_eq_true h.1
theorem call_sp {ps : List PySem.Str} {dvs : List V} {σ : L2.St} {H : Hp} {Q : VK} {fn : Fn} (hT : T f = some fn) (hnp : fn.np = ps.length) (hd : ∀ op ρ H, RepVs C op ρ H dfl dvs) (h : tE C op W (callE (callF T n) f dfl ms) σ H Q) : tA C op W ms σ H fun vs H1 => spOf C T n f ps.length op (vs ++ dvs) H1 Q (WE W σ) := by
  obtain ⟨ρ, S, δ, en, h⟩ := h
  refine ⟨ρ, S, δ, en, h.bnd.imp fun ds S1 ρ1 H1 l1 s1 h1 vs r1 => ?_⟩
  have r2 := r1.app (hd op ρ1 H1)
  refine ⟨?_, ρ1, S1, ds ++ dfl, r2, h1.1, ?_⟩
  · rw [r2.length, ← hnp]
    exact call_len_at hT h1.2
  · exact wp_mono h1.2 (fun d S2 z ρ' H' l s v r => z ρ' H' l s v (.inl r)) fun c fs S2 z => z
theorem ge_call (hK : X.K = C.K) (hr : Room (n + 2) X.A) (tk : L2N.Takes X W) (hop : op = none) (F : CalmOk C T X.prog X.w X.mg X.base n x f dfl) (hg : Gl X x) (ha : PA X (e :: es) (tA C op W ms)) (hs : (e :: es).all notStar = true) (hdb : (x == ("__debug__" : PySem.Str)) = false) :
    PE X (.Call (.Name x q) (e :: es) [] pos) (tE C op W (callE (callF T n) f dfl ms)) := by
  subst hop
  obtain ⟨a, fd, ps, ds, dvs, hm, hk, F, hv, hb, hd, fn, hT, hnp⟩ := F
  rw [← hK] at hk F hb
  have h1 : notStar e = true ∧ es.all notStar = true := by rw [List.all_cons, Bool.and_eq_true] at hs; exact hs
  exact pe_imp (pe_callSD F hr hg hm hk hb hv (fun σ => L2N.passAt tk σ) ha hdb (star_cons h1.1 es _) (star_all h1.2 _ _)) fun σ H Q h => call_sp hT hnp hd h
theorem run_fnX {k : Nat} {p : Addr × Obj} {a : Addr} {fd : FuncData} {ps : List PySem.Str} {ds : List Value} {dvs : List V} {sp : Hot → Sp} {E : XK} {pins : List (Addr × Obj)} {σ : L2.St} {H : Hp} {s : Shared} {Q : VK} {us : List Value} {vs : List V} (F : FnX X.prog X.w X.K X.mg X.base (L2N.CX X.prog X.w) k a fd ps sp) (hr : L2H.RoomH k X.A) (hc : HotP X p) (hb : Binds X.K fd ps ds) (hd : Vals dvs ds) (hx : PassesAt (L2N.CX X.prog X.w) X σ E)
    (I : Inv X pins σ H s) (r : Vals vs us) (h : sp (some p) (vs ++ dvs) H Q E) : wpAny (model X.prog X.w) X.A (call (.ref a) us) (EP X pins σ Q) X.xe s := by
  have r2 : Vals (vs ++ dvs) (us ++ ds) := r.append hd
  have hl : (us ++ ds).length = ps.length := by rw [← r2.length]; exact F.len _ _ _ _ _ h
  have P1 := I.pin p (List.mem_append_left _ hc.2)
  have hpin : L2H.PinOk X.stack H s p := ⟨P1.1, P1.2.1, fun hm => (List.mem_cons.mp (I.stkSub p.1 hm)).elim P1.2.2.1 P1.2.2.2.1, P1.2.2.2.2⟩
  refine wpAny_call (codeAny_mono (F.run X.A X.stack s H ⟨us, []⟩ (us ++ ds) (vs ++ dvs) Q E p hr hc.1 hpin I.env0 (hb s us I.kIn hl) r2 h) fun r s' hq => ?_)
  cases r with
  | error e => exact hx pins H s e s' I hq
  | ok fl =>
    cases fl with
    | ret u => exact I.after hq
    | next => exact hq.elim
    | brk => exact hq.elim
    | cont => exact hq.elim
theorem ge_callH {p : Addr × Obj} (hK : X.K = C.K) (hr : L2H.RoomH (n + 2) X.A) (tk : L2N.Takes X W) (hop : op = some p) (hc : HotP X p) (F : HotOk C T X.prog X.w X.mg X.base n x f dfl) (hg : Gl X x) (ha : PA X (e :: es) (tA C op W ms)) (hs : (e :: es).all notStar = true) (hdb : (x == ("__debug__" : PySem.Str)) = false) :
    PE X (.Call (.Name x q) (e :: es) [] pos) (tE C op W (callE (callF T n) f dfl ms)) := by
  subst hop
  obtain ⟨a, fd, ps, ds, dvs, hm, hk, F, hv, hb, hd, fn, hT, hnp⟩ := F
  rw [← hK] at hk F hb
  have h1 : notStar e = true ∧ es.all notStar = true := by rw [List.all_cons, Bool.and_eq_true] at hs; exact hs
  refine ⟨fun pins s σ H Q I h => ?_⟩
  refine wpAny_Call_Name_kw (ld_glob I hg hm ?_ hdb)
  refine PySem.W.callWith_K (h₀ := X.base) I.ok.mod.kin hk (thn (ha.run pos pins s σ H _ I (call_sp hT hnp hd h)) fun us s1 ⟨vs, H1, I1, r, q⟩ => ⟨I1.kIn, ?_⟩) (star_cons h1.1 es _) (star_all h1.2 _ _)
  exact run_fnX F hr hc hb hv (L2N.passAt tk σ) I1 r q
end
end NB

set_option Elab.async false
set_option linter.all false
set_option maxRecDepth 100000
set_option maxHeartbeats 4000000
/-! Snd12: raise; try. -/
namespace NB
open PySem PySem.Spec L2
open PyProof.Rows hiding St

/-! ### an error class's __init__ that stores its arguments -/
/-- self.f = f for each of the names -/
def initB : List PySem.Str → List Stmt → Bool
  | [], [] => true
  | f :: fs, .Assign [.Attribute (.Name s p1) g p2] (.Name h p3) pos :: r => s == "self" && g == f && h == f && initB fs r
  | _, _ => false
theorem initB_cons {f : PySem.Str} {fs : List PySem.Str} {st : Stmt} {r : List Stmt} (h : initB (f :: fs) (st :: r) = true) : ∃ p1 p2 p3 pos, st = .Assign [.Attribute (.Name "self" p1) f p2] (.Name f p3) pos ∧ initB fs r = true := by
  unfold initB at h
  split at h
  · rename_i h1 h2; cases h1
  · rename_i f' fs' s p1 g p2 hh p3 pos r' h1 h2
    cases h1; cases h2
    simp only [Bool.and_eq_true, beq_iff_eq] at h
    obtain ⟨⟨⟨e1, e2⟩, e3⟩, e4⟩ := h
    subst e1 e2 e3
    exact ⟨p1, p2, p3, pos, rfl, e4⟩
  · cases h
/-- what it promises -/
def spInit (K : PySem.W.Frag) (C : Addr) (names : List PySem.Str) : Sp := fun vs H Q _ => ∃ (a : Addr) (xs : List V), vs = .ref a :: xs ∧ xs.length = names.length ∧ H a = some (exo a C none) ∧ OexC K C ∧ (∀ f ∈ names, PySem.W.findIn K (.ref C) f = some none) ∧
  ∀ H2 (d : Addr) (fs : List (PySem.Str × V)), H d = none → d ≠ a → H2 a = some (exo a C (some d)) → H2 d = some (exd d fs) → (∀ b, b ≠ a → b ≠ d → H2 b = H b) → (∀ (k : Nat) (f : PySem.Str) (x : V), names[k]? = some f → xs[k]? = some x → fs.lookup f = some x) → Q .non H2
section
variable {X : Cx} {names : List PySem.Str} {Cc a : Addr} {H0 : Hp} {xs : List V} {σ : L2.St}
/-- the state behind the first k stores -/
def InitSt (a Cc : Addr) (names : List PySem.Str) (xs : List V) (H0 : Hp) (k : Nat) (H : Hp) : Prop :=
  (k = 0 ∧ H = H0) ∨ ∃ (d : Addr) (fs : List (PySem.Str × V)), H0 d = none ∧ d ≠ a ∧ H a = some (exo a Cc (some d)) ∧ H d = some (exd d fs) ∧ (∀ b, b ≠ a → b ≠ d → H b = H0 b) ∧ fs.length = k ∧
    ∀ (j : Nat) (f : PySem.Str) (x : V), j < k → names[j]? = some f → xs[j]? = some x → fs.lookup f = some x
theorem init_run (hN : X.N = ("self" : PySem.Str) :: names) (nd : names.Nodup) (vis : ∀ x ∈ X.N, Vis X.env.scope x) (nodbg : ∀ x ∈ X.N, (x == ("__debug__" : PySem.Str)) = false ∧ (x == ("__classdict__" : PySem.Str)) = false) (T : OexC X.K Cc) (hno : ∀ f ∈ names, PySem.W.findIn X.K (.ref Cc) f = some none) (hl : xs.length = names.length) (hz : names.length ≤ 900)
    (ha : H0 a = some (exo a Cc none)) (hσ0 : σ[0]? = some (some (.ref a))) (hσ : ∀ k x, xs[k]? = some x → σ[k + 1]? = some (some x)) :
    ∀ (rest : List Stmt) (k : Nat), k ≤ names.length → initB (names.drop k) rest = true → ∃ t, PSs X rest t ∧ ∀ (D : Ends) H, InitSt a Cc names xs H0 k H → (∀ H2, InitSt a Cc names xs H0 names.length H2 → D.nx σ H2) → t D σ H
  | [], k, hle, h => by
    have hk : names.length ≤ k := by
      cases e : names.drop k with
      | nil => exact List.drop_eq_nil_iff.mp e
      | cons f fs => rw [e] at h; cases h
    refine ⟨tNext, pss_nil, fun D H st fin => fin H ?_⟩
    rcases st with ⟨e1, e2⟩ | ⟨d, fs, q1, q2, q3, q4, q5, q6, q7⟩
    · have e3 : names.length = 0 := by omega
      exact .inl ⟨e3, e2⟩
    · exact .inr ⟨d, fs, q1, q2, q3, q4, q5, by omega, fun j f x hj e1 e2 => q7 j f x (by omega) e1 e2⟩
  | st :: rest, k, hle, h => by
    cases e : names.drop k with
    | nil => rw [e] at h; cases h
    | cons f fs =>
      rw [e] at h
      obtain ⟨p1, p2, p3, pos, rfl, h2⟩ := initB_cons h
      have hf : names[k]? = some f := by
        have := List.getElem?_drop (xs := names) (i := k) (j := 0)
        rw [e] at this
        simpa using this.symm
      have hfs : names.drop (k + 1) = fs := by
        have : (names.drop k).drop 1 = names.drop (k + 1) := by rw [List.drop_drop]
        rw [← this, e] <;> rfl
      rw [← hfs] at h2
      have hk : k < names.length := (List.getElem?_eq_some_iff.mp hf).1
      obtain ⟨t, ht, hq⟩ := init_run hN nd vis nodbg T hno hl hz ha hσ0 hσ rest (k + 1) hk h2
      have m0 : X.N[0]? = some ("self" : PySem.Str) := by rw [hN] <;> rfl
      have m1 : X.N[k + 1]? = some f := by rw [hN]; exact hf
      have hx : xs[k]? = some xs[k] := List.getElem?_eq_getElem (by omega)
      refine ⟨_, pss_cons (ps_ost (pe_var m0 (vis _ (List.mem_of_getElem? m0)) (nodbg _ (List.mem_of_getElem? m0)).1 (nodbg _ (List.mem_of_getElem? m0)).2) (pe_var m1 (vis _ (List.mem_of_getElem? m1)) (nodbg _ (List.mem_of_getElem? m1)).1 (nodbg _ (List.mem_of_getElem? m1)).2) rfl) ht, fun D H st fin => ?_⟩
      refine ⟨xs[k], hσ k _ hx, .ref a, hσ0, a, Cc, rfl, T, hno f (List.mem_of_getElem? hf), ?_⟩
      have look : ∀ (fs : List (PySem.Str × V)), (∀ (j : Nat) (f : PySem.Str) (x : V), j < k → names[j]? = some f → xs[j]? = some x → fs.lookup f = some x) →
          ∀ (j : Nat) (f' : PySem.Str) (x : V), j < k + 1 → names[j]? = some f' → xs[j]? = some x → List.lookup f' ((f, xs[k]) :: fs) = some x := fun fs hh j f' x hj e1 e2 => by
        rw [lookup_put]
        by_cases hjk : j = k
        · subst hjk
          rw [hf] at e1
          cases e1
          rw [if_pos rfl, ← hx, e2]
        · have hne : f' ≠ f := fun z => by
            subst z
            obtain ⟨l1, g1⟩ := List.getElem?_eq_some_iff.mp e1
            obtain ⟨l2, g2⟩ := List.getElem?_eq_some_iff.mp hf
            exact hjk ((List.getElem_inj nd).mp (g1.trans g2.symm))
          rw [if_neg hne]
          exact hh j f' x (by omega) e1 e2
      rcases st with ⟨e1, e2⟩ | ⟨d, fs', q1, q2, q3, q4, q5, q6, q7⟩
      · subst e1 e2
        refine .inl ⟨ha, fun dx hd hne => hq D _ (.inr ⟨dx, [(f, xs[0])], hd, hne, upd_same, ?_, fun b h1 h2 => ?_, rfl, look [] fun j _ _ hj => absurd hj (Nat.not_lt_zero _)⟩) fin⟩
        · rw [upd_ne hne, upd_same]
        · rw [upd_ne h1, upd_ne h2]
      · refine .inr ⟨d, fs', q3, q4, by omega, hq D _ (.inr ⟨d, (f, xs[k]) :: fs', q1, q2, ?_, upd_same, fun b h1 h2 => ?_, by rw [List.length_cons, q6], look fs' q7⟩) fin⟩
        · rw [upd_ne (Ne.symm q2)]; exact q3
        · rw [upd_ne h2]; exact q5 b h1 h2
/-- the __init__ keeps its promise -/
theorem init_ok {CX : CXT} {P : Program} {w : World} {K : PySem.W.Frag} {mg : PySem.Str → Option Value} {base : Heap} {f : Addr} {x qual : PySem.Str} {params : Arguments} {body : List Stmt} {scope : Scope} {fd : FuncData} {C : Addr}
    (F : FunD K x qual params body scope [] [] f fd) (S : FnScope (("self" : PySem.Str) :: names) (("self" : PySem.Str) :: names) scope) (hne : names ≠ []) (nodbg : ∀ x ∈ ("self" : PySem.Str) :: names, (x == ("__debug__" : PySem.Str)) = false ∧ (x == ("__classdict__" : PySem.Str)) = false) (hz : names.length ≤ 900) (hb : initB names body = true) :
    FnOk P w K mg base CX 1 f fd (("self" : PySem.Str) :: names) (spInit K C names) := by
  refine F.ok S (fun vs H Q E h => ?_) fun cdv A outer s H vs Q E hr h => ?_
  · obtain ⟨a, xs, e, hl, _⟩ := h
    rw [e, List.length_cons, List.length_cons, hl]
  · obtain ⟨a, xs, rfl, hl, ha, T, hno, hq⟩ := h
    have nd : names.Nodup := (List.nodup_cons.mp S.nd).2
    have hst : ∀ k y, xs[k]? = some y → (L2.start (("self" : PySem.Str) :: names) (.ref a :: xs))[k + 1]? = some (some y) := fun k y hk => by
      have hk' : k < xs.length := (List.getElem?_eq_some_iff.mp hk).1
      show ((V.ref a :: xs).map some ++ _)[k + 1]? = _
      rw [List.getElem?_append_left (by simp; exact hk')]
      simp [hk]
    obtain ⟨t, ht, hf⟩ := init_run (X := cxOf CX P w K mg base (("self" : PySem.Str) :: names) qual scope f cdv A outer s H E) (names := names) (Cc := C) (a := a) (H0 := H) (xs := xs) (σ := L2.start (("self" : PySem.Str) :: names) (.ref a :: xs)) rfl nd
      (fun x hx => (S.par x hx).elim .inl fun z => .inr (.inl z)) nodbg T hno hl hz ha rfl hst body 0 (Nat.zero_le _) hb
    refine ⟨t, ht, hf _ _ (.inl ⟨rfl, rfl⟩) fun H2 st => ?_⟩
    rcases st with ⟨e1, e2⟩ | ⟨d, fs, q1, q2, q3, q4, q5, q6, q7⟩
    · exact absurd (List.length_eq_zero_iff.mp e1) hne
    · exact hq H2 d fs q1 q2 q3 q4 q5 fun k f x e1 e2 => q7 k f x (List.getElem?_eq_some_iff.mp e1).1 e1 e2
end
/-! ### raise -/
/-- C(e, ..) where nothing is handled: the new exception's context is None -/
theorem pmk_init {X : Cx} {CX : CXT} {x : PySem.Str} {e : Expr} {es : List Expr} {ta : TA} {p pos : Pos} {C fI : Addr} {k : Nat} {fd : FuncData} {ps : List PySem.Str} {sp : Sp} (T : OexC X.K C) (iC : PySem.W.findIn X.K (.ref C) "__init__" = some (some (.ref fI))) (tI : PySem.W.typeIn X.K (.ref fI) = some (.type "function"))
    (F1 : FnOk X.prog X.w X.K X.mg X.base CX k fI fd ps sp) (hr : Room (k + 1) X.A) (hb : Binds X.K fd ps []) (hx : Passes CX X (fun _ _ _ => False)) (hg : Gl X x) (hm : X.mg x = some (.ref C)) (ha : PA X (e :: es) ta)
    (hdb : (x == ("__debug__" : PySem.Str)) = false) (he : starEach (e :: es) X.env = (false, eval e X.env) :: starEach es X.env) (hpl : (backTo pos (starEach es X.env)).any (·.1) = false) :
    L2N.PMk X (.Call (.Name x p) (e :: es) [] pos) (tMkO C sp [] ta) := by
  intro pins s σ H Q I h
  obtain ⟨nm, q, N, bs, bm, sn, sub, ab, col, dd, k0, k1, k2, k3, k5, hC, hbm⟩ := T.cls
  refine wpAny_Call_Name_kw (ld_glob I hg hm ?_ hdb)
  refine PySem.W.callWith_K (h₀ := X.base) I.ok.mod.kin T.kC (thn (ha.run pos pins s σ H _ I h) fun us s1 ⟨vs, H1, I1, r1, hz, q1⟩ => ⟨I1.kIn, ?_⟩) he hpl
  obtain ⟨hp, g, dr, tk, os⟩ := s1
  have new : H1 (hp.objs.size + 1) = none := I1.hok.fresh (Nat.le_succ _)
  have old : ∀ b o, hp.get? b = some o → ((hp.push (PySem.W.kdv_tup us)).push (PySem.HandSPX.excO C hp.objs.size)).get? b = some o := fun b o e => Heap.get?_push_of_some _ (Heap.get?_push_of_some _ e)
  have made : ((hp.push (PySem.W.kdv_tup us)).push (PySem.HandSPX.excO C hp.objs.size)).get? (hp.objs.size + 1) = some (PySem.HandSPX.excO C hp.objs.size) := by heap_get
  have I2 : Inv X pins σ (upd H1 (hp.objs.size + 1) (exo (hp.objs.size + 1) C none)) ⟨(hp.push (PySem.W.kdv_tup us)).push (PySem.HandSPX.excO C hp.objs.size), g, dr, tk, os⟩ := I1.laid (t' := tk) old (Nat.le_succ _) (exo_ok made)
  have hq := q1 (hp.objs.size + 1) new
  have r2 : Vals (V.ref (hp.objs.size + 1) :: (vs ++ [])) ((Value.ref (hp.objs.size + 1) :: us) ++ []) := .cons rfl (r1.append .nil)
  have hl : (Value.ref (hp.objs.size + 1) :: us ++ []).length = ps.length := by
    have e := r2.length
    rw [F1.len _ _ _ _ hq] at e
    exact e.symm
  have hus : us.length ≤ sizeLine := by
    rw [← Paired.length r1, sizeLine_eq]
    omega
  show wpAny _ _ (call (.ref C) us) _ _ _
  refine wpAny_call (PySem.HandSPX.call_own PySem.F.excBase_ValueError (fun Y => PySem.HandSPX.refsVE_contains Y bm hbm) (I1.kIn _ _ hC) (PySem.W.looks_findIn I1.kIn iC) (fun self => PySem.W.bind_fn I1.kIn self tI) hus
    (codeAny_mono (F1.run _ X.stack _ _ ⟨Value.ref (hp.objs.size + 1) :: us, []⟩ ((Value.ref (hp.objs.size + 1) :: us) ++ []) _ _ (fun _ _ _ => False) (hr.make C us []) (I2.env0.make C us []) (hb _ (Value.ref (hp.objs.size + 1) :: us) I2.kIn hl) r2 hq) fun r s' hq' => ?_))
  cases r with
  | error er => exact hx pins σ _ _ er s' I2 hq'
  | ok fl =>
    cases fl with
    | ret u =>
      obtain ⟨v, H2, os2, bare2, un2, hok2, rv, ev, d, fs, ea, ed, hd1, q2⟩ := hq'
      subst ev
      obtain ⟨h2, g2, d2, t2, os'⟩ := s'
      obtain ⟨t0, G, J, kG, ge, hoe, na⟩ := mk_end0 (d2 := d2) (t2 := t2) I1 (Nat.le_succ _) old un2 hok2 os2 bare2 ea ed hd1
      exact ⟨rv, hp.objs.size + 1, _, _, ⟨G, g2, d2, t2, os'⟩, _, .ref C, some d, rfl, J, kG, ge, hoe, ⟨rfl, rfl, fun vs hv => by cases hv; rfl⟩, rfl, rfl, na, rfl, bare2, raises_own T.exC T.tyC, q2⟩
    | next => exact hq'.elim
    | brk => exact hq'.elim
    | cont => exact hq'.elim
/-- an own error class with fields, raised by its name -/
def RaiseOk (C : Cf) (P : Program) (w : World) (mg : PySem.Str → Option Value) (base : Heap) (x : PySem.Str) (c : Nat) : Prop :=
  ∃ (fI : Addr) (fd : FuncData) (ps : List PySem.Str), c < C.nc ∧ mg x = some (.ref (C.cad c)) ∧ OexC C.K (C.cad c) ∧ PySem.W.findIn C.K (.ref (C.cad c)) "__init__" = some (some (.ref fI)) ∧ PySem.W.typeIn C.K (.ref fI) = some (.type "function") ∧
    FnOk P w C.K mg base (L2N.CX P w) 1 fI fd ps (spInit C.K (C.cad c) (C.cfl c)) ∧ Binds C.K fd ps [] ∧ (∀ f ∈ C.cfl c, PySem.W.findIn C.K (.ref (C.cad c)) f = some none) ∧ (C.cfl c).length ≤ 900
theorem wp_ex {C : Cf} {W : WX} {A : Nat → Bool} {σ : L2.St} {ρ : List Addr} {H : Hp} {S : Store} {c : Nat} {fs : List D} {α : Type} {R : α → Store → List Addr → Hp → Prop} (h : AtS C W A σ ρ H S (thr c fs : M α) R) {ρ' : List Addr} {H' : Hp} {cls : Value} {dd : Option Addr} (l : Lat ρ H ρ' H') (s : Sim C.K ρ' S H') (r : RepE C ρ' H' c fs cls dd) : W cls dd σ H' := h.2 σ .refl ρ' H' cls dd l s r
section
variable {C : Cf} {op : Hot} {W : WX} {A : Nat → Bool} {X : Cx} {e : Expr} {es : List Expr} {ms : AA} {x : PySem.Str} {c n : Nat} {p pos pos2 : Pos}
theorem gs_raise (hK : X.K = C.K) (hc : X.calm = true) (hr : Room 2 X.A) (tk : L2N.Takes X W) (R : RaiseOk C X.prog X.w X.mg X.base x c) (hn : (C.cfl c).length = n) (hg : Gl X x) (ha : PA X (e :: es) (tA C op W ms)) (hs : (e :: es).all notStar = true) (hdb : (x == ("__debug__" : PySem.Str)) = false) :
    PS X (.Raise (some (.Call (.Name x p) (e :: es) [] pos)) none pos2) (tS C op W A (raiseS c n ms)) := by
  obtain ⟨fI, fd, ps, hnc, hm, T, iC, tI, F, hb, hno, hz⟩ := R
  rw [← hK] at T iC tI F hb
  have h1 : notStar e = true ∧ es.all notStar = true := by rw [List.all_cons, Bool.and_eq_true] at hs; exact hs
  have hx : Passes (L2N.CX X.prog X.w) X (fun _ _ _ => False) := fun pins σ H s e s' I q => L2N.passes_call (E := fun _ _ _ => False) tk (fun _ _ _ _ z => z.elim) pins σ H s e s' I q
  refine ps_imp (L2N.ps_raise hc tk (pmk_init T iC tI F hr hb hx hg hm ha hdb (star_cons h1.1 es _) (star_all h1.2 _ _))) fun D σ H ⟨ρ, S, δ, en, h⟩ => ?_
  refine ⟨ρ, S, δ, en, h.fst.imp fun ds S1 ρ1 H1 l1 s1 h2 vs r => ?_⟩
  obtain ⟨hz2, h3⟩ := h2.chk
  rw [Bool.and_eq_true] at hz2
  have q := r.plain hz2.1
  have hlen : ds.length = n := of_decide_eq_true hz2.2
  have hvl : vs.length = (C.cfl c).length := by rw [q.length, hlen, hn]
  refine ⟨by omega, fun a hA => ⟨a, vs, by rw [List.append_nil], hvl, upd_same, T, by rw [hK]; exact hno, fun H2 d fs hd hne ea ed hb2 hl => ?_⟩⟩
  have hd' : H1 d = none := by rw [upd_ne hne] at hd; exact hd
  refine ⟨rfl, d, fs, ea, ed, hd', ?_⟩
  have eH : upd (del H2 a) d (.xd fs) = upd H1 d (.xd fs) := by
    funext b
    by_cases h1 : b = d
    · rw [h1, upd_same, upd_same]
    · rw [upd_ne h1, upd_ne h1]
      by_cases h2 : b = a
      · rw [h2, del_same, hA]
      · rw [del_ne h2, hb2 b h2 h1, upd_ne h2]
  rw [eH]
  have l : Lat ρ1 H1 ρ1 (upd H1 d (.xd fs)) := .upd_new hd'
  refine wp_ex h3 l (s1.beside hd') ⟨hnc, rfl, fs, upd_same, by rw [hlen, hn], fun k f dd e1 e2 => ?_⟩
  obtain ⟨v, e3, rv⟩ := q.get e2
  exact ⟨v, hl k f v e1 e3, rv.mono l⟩
end
end NB

set_option Elab.async false
set_option linter.all false
set_option maxRecDepth 100000
set_option maxHeartbeats 4000000
/-! Snd13: try; for over range where an exception is handled. -/
namespace NB
open PySem PySem.Spec L2
open PyProof.Rows hiding St

section
variable {C : Cf} {op : Hot} {ρ ρ' : List Addr} {H H' : Hp} {δ : Env} {σ σ' : L2.St}
theorem forget_get : ∀ {vs : List Nat} {i : Nat} {d : D}, (forget δ vs)[i]? = some (some d) → δ[i]? = some (some d) ∧ i ∉ vs
  | [], _, _, h => ⟨h, by simp⟩
  | v :: vs, i, d, h => by
    have h : ((forget δ vs).set v none)[i]? = some (some d) := h
    by_cases e : v = i
    · subst e
      have hl : v < (forget δ vs).length := by
        have := (List.getElem?_eq_some_iff.mp h).1
        rwa [List.length_set] at this
      rw [List.getElem?_set_self hl] at h
      cases h
    · rw [List.getElem?_set_ne e] at h
      obtain ⟨h1, h2⟩ := forget_get h
      exact ⟨h1, by simp only [List.mem_cons, not_or]; exact ⟨fun z => e z.symm, h2⟩⟩
theorem forget_len : ∀ vs : List Nat, (forget δ vs).length = δ.length
  | [] => rfl
  | v :: vs => by
    show ((forget δ vs).set v none).length = _
    rw [List.length_set, forget_len vs]
theorem EnvR.forget {vs : List Nat} (h : EnvR C op ρ H δ σ) (f : FrA (fun i => vs.contains i) σ σ') : EnvR C op ρ H (NB.forget δ vs) σ' :=
  ⟨by rw [forget_len, f.1]; exact h.1, fun i d e => by
    obtain ⟨e1, e2⟩ := forget_get e
    obtain ⟨v, e3, r⟩ := h.2 i d e1
    exact ⟨v, by rw [f.2 i (by simpa using e2)]; exact e3, r⟩⟩
theorem EnvR.hot {p : Addr × Obj} (h : EnvR C none ρ H δ σ) : EnvR C (some p) ρ H δ σ := ⟨h.1, fun i d e => by
  obtain ⟨v, e1, r⟩ := h.2 i d e
  refine ⟨v, e1, ?_⟩
  rcases r with r | ⟨c, fs, e, q, e2, _⟩
  · exact .inl r
  · cases e2⟩
theorem EnvR.cool {p : Addr × Obj} (h : EnvR C (some p) ρ H δ σ) (n : δ.all noExcO = true) : EnvR C none ρ H δ σ := ⟨h.1, fun i d e => by
  obtain ⟨v, e1, r⟩ := h.2 i d e
  refine ⟨v, e1, .inl (r.plain ?_)⟩
  have := List.all_eq_true.mp n (some d) (List.mem_of_getElem? e)
  unfold noExcO at this
  simpa using this⟩
end
section
variable {C : Cf} {W : WX} {A : Nat → Bool} {X : Cx} {x n : PySem.Str} {cls i : Nat} {vs : List Nat} {body suite : List Stmt} {b₀ : Stmt} {np pos pos' : Pos} {mb mh : SS}
theorem FrA.sub {A A' : Nat → Bool} {σ σ' : L2.St} (h : ∀ i, A' i = true → A i = true) (f : FrA A' σ σ') : FrA A σ σ' := ⟨f.1, fun i e => f.2 i (by
  cases z : A' i with
  | false => rfl
  | true => rw [h i z] at e; cases e)⟩
/-- the suite's reading, whatever the exception's object -/
def tHand (C : Cf) (A : Nat → Bool) (mh : SS) : Addr → Value → Option Addr → TS := fun a cl d D σ H => ∀ oe, L2N.Zn cl d oe → (∃ vs, oe.data = .fields vs) → tS C (some (a, oe)) W0 A mh D σ H
theorem try_at (kc : KC C) (hK : X.K = C.K) (hcls : cls < C.nc) (hA : A i = true) (hvs : ∀ j, vs.contains j = true → A j = true) {D : Ends} {σ : L2.St} {H : Hp} (h : tS C none W A (tryS vs mb cls i mh) D σ H) :
    tS C none (wAs X.K (.ref (C.cad cls)) i (tHand C A mh) W D) (fun j => vs.contains j) mb D σ H := by
  obtain ⟨ρ, S, δ, en, hs, h⟩ := h
  refine ⟨ρ, S, δ, en, hs, ?_⟩
  unfold Wp tryS at h
  dsimp only at h
  unfold Wp
  cases q : mb δ S with
  | bad => rw [q] at h; exact h
  | ok f S1 =>
    rw [q] at h
    intro ρ' H' l s
    have z := h ρ' H' l s
    cases f with
    | nx δ' => exact fun σ' f' e' => z σ' (f'.sub hvs) e'
    | bk δ' => exact fun σ' f' e' => z σ' (f'.sub hvs) e'
    | ct δ' => exact fun σ' f' e' => z σ' (f'.sub hvs) e'
    | rt d => exact z
  | exc c fs S1 =>
    rw [q] at h
    dsimp only at h
    intro σ' f' ρ' H' cl dd l s r
    obtain ⟨hc, ecl, hxf⟩ := r
    subst ecl
    refine ⟨subC c cls, by rw [hK]; exact kc.xm c hc cls hcls, fun hb a ha oe hz hf => ?_, fun hb => ?_⟩
    · rw [hb] at h
      have h2 : Wp (NB.bnd (calm (mh ((forget δ vs).set i (some (.exc c fs))))) (fun f => match f with
        | .nx δ' => bif (δ'.set i none).all noExcO then ret (Fl.nx (δ'.set i none)) else err
        | .bk δ' => bif (δ'.set i none).all noExcO then ret (Fl.bk (δ'.set i none)) else err
        | .ct δ' => bif (δ'.set i none).all noExcO then ret (Fl.ct (δ'.set i none)) else err
        | .rt d => ret (Fl.rt d))) S1 (fun a S' => ∀ ρ' H', Lat ρ H ρ' H' → Sim C.K ρ' S' H' → ends C none A σ D a S' ρ' H') (fun c fs S' => ∀ σ', FrA A σ σ' → EX C W σ' ρ H c fs S') := h
      rw [wp_bnd] at h2
      have h3 := wp_calm h2
      have fA : FrA A σ (σ'.set i (some (.ref a))) := (f'.sub hvs).trans (.set hA)
      refine ⟨ρ', S1, (forget δ vs).set i (some (.exc c fs)), ((((en.mono l).forget f').hot).set (.inr ⟨c, fs, rfl, (a, oe), rfl, rfl, hc, hz.1, hf, by rw [hz.2.1]; exact hxf⟩)), s, ?_⟩
      refine wp_mono h3 (fun f S2 z ρ2 H2 l2 s2 => ?_) fun _ _ _ z => z.elim
      have key : ∀ {δ' : Env} {mk : Env → Fl}, Wp (bif (δ'.set i none).all noExcO then ret (mk (δ'.set i none)) else err) S2 (fun a S' => ∀ ρ' H', Lat ρ H ρ' H' → Sim C.K ρ' S' H' → ends C none A σ D a S' ρ' H') (fun c fs S' => ∀ σ', FrA A σ σ' → EX C W σ' ρ H c fs S') →
          (δ'.set i none).all noExcO = true ∧ ends C none A σ D (mk (δ'.set i none)) S2 ρ2 H2 := fun {δ' mk} z => by
        rw [wp_chk] at z
        exact ⟨z.1, z.2 ρ2 H2 (l.trans l2) s2⟩
      cases f with
      | nx δ' =>
        obtain ⟨z1, z2⟩ := key (mk := Fl.nx) z
        exact fun σ2 f2 e2 => z2 _ ((fA.trans f2).trans (.set hA)) (e2.unset.cool z1)
      | bk δ' =>
        obtain ⟨z1, z2⟩ := key (mk := Fl.bk) z
        exact fun σ2 f2 e2 => z2 _ ((fA.trans f2).trans (.set hA)) (e2.unset.cool z1)
      | ct δ' =>
        obtain ⟨z1, z2⟩ := key (mk := Fl.ct) z
        exact fun σ2 f2 e2 => z2 _ ((fA.trans f2).trans (.set hA)) (e2.unset.cool z1)
      | rt d => exact fun v r => z ρ2 H2 (l.trans l2) s2 v r
    · rw [hb] at h
      exact h σ' (f'.sub hvs) ρ' H' _ dd l s ⟨hc, rfl, hxf⟩
theorem gs_try (kc : KC C) (hK : X.K = C.K) (hs : X.stack = X.env :: X.outer) (hf : X.env.frame = some X.env.locals) (hN : X.N.Nodup) (hi : X.N[i]? = some n) (hln : X.env.kindOf n = some .local) (hg : Gl X x) (hdb : (x == ("__debug__" : PySem.Str)) = false) (hm : X.mg x = some (.ref (C.cad cls))) (hcls : cls < C.nc)
    (tk : L2N.Takes X W) (hA : A i = true) (hvs : ∀ j, vs.contains j = true → A j = true)
    (hb : ∀ (W : WX) (pn : List (Addr × Obj)) (xe : Value → Shared → Prop), L2N.Takes (X.tr pn xe) W → PassesOwn (model X.prog X.w) X.A X.env xe → PSs (X.tr pn xe) body (tS C none W (fun j => vs.contains j) mb))
    (hsu : ∀ (a : Addr) (oe : Obj) (cl : Value) (d : Option Addr) (pn : List (Addr × Obj)), L2N.Zn cl d oe → (∃ vs, oe.data = .fields vs) → PSs (X.suite a ((a, oe) :: pn)) (b₀ :: suite) (tS C (some (a, oe)) W0 A mh)) :
    PS X (.Try body [.ExceptHandler (some (.Name x np)) (some n) (b₀ :: suite) pos'] [] [] pos) (tS C none W A (tryS vs mb cls i mh)) := by
  refine ps_imp (L2N.ps_try_as (ts := tHand C A mh) hs hf hN hi hln ⟨hg, hdb, .inl hm⟩ tk hb fun a oe cl d pn hz hd => ?_) fun D σ H h => try_at (X := X) kc hK hcls hA hvs h
  exact pss_imp (hsu a oe cl d pn hz hd) fun D σ H q => q oe hz hd
end
/-! ### for over range, hot -/
section
variable {C : Cf} {op : Hot} {W : WX} {A : Nat → Bool} {X : Cx} {body : List Stmt} {tg a : Expr} {mb : SS} {ms : AA} {g : TG} {p pos pos' : Pos}
theorem gs_forH (hp : PassesOwn (model X.prog X.w) X.A X.env X.xe) (hc : L2H.HotC X) (hg : Gl X "range") (hm : X.mg "range" = none) (ha : PA X [a] (tA C op W ms)) (h1 : notStar a = true) (hgt : PG X tg (tG C op W A g)) (hb : PSs X body (tS C op W A mb)) :
    PS X (.For tg (.Call (.Name "range" p) [a] [] pos') body [] pos) (tS C op W A (forS (rangeI1 ms) g mb)) := by
  refine ps_imp (L2H.ps_forH hp hc (L2H.pi_range1H hg hm ha (star_cons h1 [] _)) hgt hb (fun x => rfl)) fun D σ H h => for_at (fun σ H R ⟨ρ, S, δ, en, h⟩ => ?_) h
  refine ⟨ρ, S, δ, en, h.bnd.imp fun ds S1 ρ1 H1 l1 s1 h1 vs r => ?_⟩
  have hd : ∃ j, ds = [.int j] := by
    unfold rangeIt1 at h1
    split at h1
    · exact ⟨_, rfl⟩
    · exact h1.err.elim
  obtain ⟨j, rfl⟩ := hd
  match vs, r with
  | [v], r =>
    cases rep_int (r.1.plain rfl)
    obtain ⟨hz, h1⟩ := h1.chk
    obtain ⟨z1, z2⟩ := rg_ok hz
    exact ⟨j, rfl, z1, z2, h1.ret _ itr_range⟩
  | [], r => exact r.elim
  | _ :: _ :: _, r => exact r.2.elim
end
end NB

set_option Elab.async false
set_option linter.all false
set_option maxRecDepth 100000
set_option maxHeartbeats 4000000
/-! SndA: xs[::-1] of lists and texts. -/
namespace NB
open PySem PySem.Spec L2
open PyProof.Rows hiding St

theorem back_idx (z : PySem.Str) : (Builtin.Str.strSliceIndices none none (-1) z.length).filterMap (z.cps[·]?) = z.cps.toList.reverse := by
  have e : Builtin.Str.strSliceIndices none none (-1) z.length = sliceRange ((z.cps.size : Int) - 1) (-1) (-1) := rfl
  rw [e, PySem.W.krv_sliceRange, PySem.W.krv_range, List.filterMap_reverse, PySem.W.krv_all]
def tBack (K : PySem.W.Frag) (te : TE) : TE := fun σ H Q => te σ H fun x H1 => (∃ a xs, x = .ref a ∧ SqL K H1 a xs ∧ ∀ p, H1 p = none → Q (.ref p) (upd H1 p (.lst xs.reverse))) ∨ (∃ z : PySem.Str, x = .str z ∧ z.length ≤ sizeLine ∧ Q (.str ⟨z.cps.toList.reverse.toArray⟩) H1)
theorem pe_back {X : Cx} {e : Expr} {te : TE} {k : Nat} {p1 p2 p3 pos : Pos} (he : PE X e te) : PE X (.Subscript e (.Slice none none (some (.UnaryOp .USub (.Constant (.int 1) k p1) p2)) p3) pos) (tBack X.K te) := by
  refine ⟨fun pins s σ H Q I h => ?_⟩
  refine Subscript_ (thn (he.run pins s σ H _ I h) fun v s1 ⟨x, H1, I1, r1, q1⟩ => ?_)
  have hst : PO X (some (.UnaryOp .USub (.Constant (.int 1) k p1) p2)) (tPart (tUn (rU fun i => .int (-i)) (tC (.int 1)))) := po_some (pe_un un_neg pe_int)
  refine wpAny_Slice (thn (po_none.run pins s1 σ H1 (fun o H2 => o = none ∧ H2 = H1) I1 ⟨rfl, rfl⟩) fun vl s2 ⟨l, H2, I2, pl, el, e2⟩ => ?_)
  subst el e2
  refine thn (po_none.run pins s2 σ H2 (fun o H3 => o = none ∧ H3 = H2) I2 ⟨rfl, rfl⟩) fun vu s3 ⟨u, H3, I3, pu, eu, e3⟩ => ?_
  subst eu e3
  refine thn (hst.run pins s3 σ H3 (fun o H4 => o = some (-1) ∧ H4 = H3) I3 ⟨1, rfl, -1, rfl, rfl, rfl⟩) fun vs s4 ⟨o, H4, I4, ps, eo, e4⟩ => ?_
  subst eo e4
  have I5 : L2.Inv X pins σ H4 { s4 with heap := s4.heap.push { cls := .type "slice", data := .fields #[vl, vu, vs] } } := I4.kept (t' := s4.toks) fun b ob q => Heap.get?_push_of_some _ q
  rcases q1 with ⟨a, xs, ex, hx, q⟩ | ⟨z, ex, hz, q⟩
  · subst ex
    cases r1
    obtain ⟨its, r, ht, hz⟩ := I5.list hx
    have hlen := r.length
    show wpAny (model X.prog X.w) X.A (subscriptTail e (.Slice none none (some (.UnaryOp .USub (.Constant (.int 1) k p1) p2)) p3) (.ref a) (.ref s4.heap.objs.size)) (EP X pins σ Q) X.xe { s4 with heap := s4.heap.push { cls := .type "slice", data := .fields #[vl, vu, vs] } }
    refine tail_any (ops := [.ref a, .ref s4.heap.objs.size]) ht.isList.typeIs (PySem.slot_list_getitem.lookup) ?_ (by with_unfolding_all rfl)
    refine wpAny_getItem_list_slice ht.isList (Heap.IsSliceOf.new _ vl vu vs) pl pu ps (by decide) ?_ (by rw [List.size_toArray]; omega)
    rw [PySem.W.krv_pick]
    refine ⟨.ref _, _, I5.laid (t' := s4.toks) (o := .lst xs.reverse) (fun b ob q => Heap.get?_push_of_some _ q) (Nat.le_refl _) ?_, rfl, q _ (I5.hok.fresh (Nat.le_refl _))⟩
    exact ⟨by rw [List.length_reverse]; exact hz, _, 0, r.reverse, Heap.get?_push_size _ rfl⟩
  · subst ex
    obtain ⟨t, rfl⟩ := r1
    obtain ⟨l1, rfl, el1⟩ := IsPart.raw pl
    obtain ⟨u1, rfl, eu1⟩ := IsPart.raw pu
    obtain ⟨k1, rfl, ek1⟩ := IsPart.raw ps
    show wpAny (model X.prog X.w) X.A (subscriptTail e (.Slice none none (some (.UnaryOp .USub (.Constant (.int 1) k p1) p2)) p3) (.str z t) (.ref s4.heap.objs.size)) (EP X pins σ Q) X.xe { s4 with heap := s4.heap.push { cls := .type "slice", data := .fields #[partValue l1, partValue u1, partValue k1] } }
    have hk : (k1.map (·.1)).getD 1 = (-1 : Int) := by rw [ek1] <;> rfl
    refine tail_any (ops := [.ref s4.heap.objs.size, .str z t]) (typeIs_str _ _ _) F.slot_str_getitem.lookup ?_ (by with_unfolding_all rfl)
    refine wpAny_getItem_str_slice (l := l1) (u := u1) (st := k1) ⟨_, Heap.get?_push_size _ rfl, rfl, rfl⟩ (by rw [hk] <;> rfl) ?_
    unfold sliceMade slicePicked
    rw [hk, el1, eu1, back_idx]
    have hc : ¬ (((-1 : Int) == 1 && (Builtin.Str.strSliceIndices none none (-1) z.length).length == z.length) = true) := by
      rw [show ((-1 : Int) == 1) = false from rfl, Bool.false_and]
      exact Bool.false_ne_true
    rw [if_neg hc]
    refine ⟨?_, .str _, H4, I5.tok _, ⟨_, rfl⟩, q⟩
    show (z.cps.toList.reverse.toArray).size ≤ sizeLine
    rw [List.size_toArray, List.length_reverse, Array.length_toList]
    exact hz
section
variable {C : Cf} {op : Hot} {W : WX} {X : Cx} {e : Expr} {m : EE} {pos : Pos} {ρ : List Addr} {H : Hp} {S : Store} {σ : L2.St}
theorem ge_back {k : Nat} {p1 p2 p3 : Pos} (hK : X.K = C.K) (ha : PE X e (tE C op W m)) : PE X (.Subscript e (.Slice none none (some (.UnaryOp .USub (.Constant (.int 1) k p1) p2)) p3) pos) (tE C op W (op1E backD m)) := by
  refine pe_imp (pe_back ha) fun σ H Q ⟨ρ, S, δ, en, h⟩ => ⟨ρ, S, δ, en, h.bnd.imp fun d S1 ρ1 H1 l1 s1 h1 x r1 => ?_⟩
  cases d with
  | str z =>
    obtain ⟨e, hz⟩ := rep_str (r1.plain rfl)
    subst e
    refine .inr ⟨_, rfl, by rw [str_len, ← sz_eq]; exact hz, ?_⟩
    exact NB.fin h1 (.str (by rw [List.length_reverse]; exact hz))
  | loc n =>
    obtain ⟨p, rfl, g⟩ := rep_loc (r1.plain rfl)
    have hs := h1.1
    obtain ⟨w, xs, e0, h2⟩ := (show At C W σ ρ1 H1 S1 (bnd (listAt n) fun xs => newL xs.reverse) (fun d _ ρ' H' => ∀ v, RepV C op ρ' H' d v → Q v H') from h1).bnd.listAt
    obtain ⟨vs, l, q⟩ := hs.seqAt e0 g
    exact .inl ⟨p, vs, rfl, by rw [hK]; exact l, fin_new h2 q.reverse⟩
  | _ => exact h1.err.elim
end
end NB

set_option Elab.async false
set_option linter.all false
set_option maxRecDepth 100000
set_option maxHeartbeats 4000000
/-! Snd14: what a def's text is compiled against, and that the contexts bear it. -/
namespace NB
open PySem PySem.Spec L2
open PyProof.Rows hiding St

/-- what the compiler knows -/
structure Gm where
  N : List PySem.Str
  scope : Scope
  st : List PySem.Str
  hot : Bool
  free : List PySem.Str
  fns : List ((PySem.Str × Nat) × (Nat × List D))
  hfns : List ((PySem.Str × Nat) × (Nat × List D))
  clss : List (PySem.Str × Nat)
  rais : List (PySem.Str × (Nat × Nat))
  vals : List (PySem.Str × D)
  flds : List (PySem.Str × List (Nat × Nat))
abbrev CallT := Nat → List D → M D
/-- the context bears what the compiler knows; l the level -/
structure XOk (Γ : Gm) (C : Cf) (T : NB.Tab) (n : Nat) (op : Hot) (W : WX) (X : Cx) : Prop where
  K : X.K = C.K
  N : X.N = Γ.N
  nd : X.N.Nodup
  sc : X.env.scope = Γ.scope
  kind : X.env.scope.kind = .function
  st : ∀ x ∈ Γ.st, Loc X.env.scope x ∧ (X.fn x = true ∨ X.env.scope.names.lookup x = some .local)
  calm : Γ.hot = false → op = none ∧ X.calm = true ∧ Room (n + 2) X.A
  hot : Γ.hot = true → ∃ p, op = some p ∧ HotP X p ∧ L2H.RoomH (n + 2) X.A
  tk : L2N.Takes X W
  fns : ∀ x k f d, ((x, k), (f, d)) ∈ Γ.fns → CalmOk C T X.prog X.w X.mg X.base n x f d
  hfns : ∀ x k f d, ((x, k), (f, d)) ∈ Γ.hfns → HotOk C T X.prog X.w X.mg X.base n x f d
  free : ∀ x ∈ Γ.free, X.mg x = none
  vals : ∀ x d, (x, d) ∈ Γ.vals → GlobOk C X.mg x d
  clss : ∀ x c, (x, c) ∈ Γ.clss → X.mg x = some (.ref (C.cad c)) ∧ c < C.nc
  rais : ∀ x c k, (x, (c, k)) ∈ Γ.rais → RaiseOk C X.prog X.w X.mg X.base x c ∧ (C.cfl c).length = k
  flds : ∀ x t, (x, t) ∈ Γ.flds → FldOk C x t
  kc : KC C
/-- a def's own context, a try's, a suite's -/
structure XSt (X : Cx) : Prop where
  stack : X.stack = X.env :: X.outer
  frame : X.env.frame = some X.env.locals
  po : PassesOwn (model X.prog X.w) X.A X.env X.xe
section
variable {Γ : Gm} {C : Cf} {T : NB.Tab} {n : Nat} {op : Hot} {W W' : WX} {X : Cx}
theorem XOk.opin (h : XOk Γ C T n op W X) : OpIn op X := fun p e => by
  cases z : Γ.hot with
  | false => rw [(h.calm z).1] at e; cases e
  | true =>
    obtain ⟨q, e2, hp, _⟩ := h.hot z
    rw [e2] at e
    cases e
    exact hp.2
theorem XOk.hotC (h : XOk Γ C T n op W X) (z : Γ.hot = true) : L2H.HotC X := by
  obtain ⟨q, _, hp, _⟩ := h.hot z
  exact ⟨q, hp.1, hp.2⟩
/-- a try's body -/
theorem XOk.tr (h : XOk Γ C T n op W X) (z : Γ.hot = false) {pn : List (Addr × Obj)} {xe : Value → Shared → Prop} (tk : L2N.Takes (X.tr pn xe) W') : XOk Γ C T n op W' (X.tr pn xe) where
  K := h.K
  N := h.N
  nd := h.nd
  sc := h.sc
  kind := h.kind
  st := h.st
  calm := h.calm
  hot := fun y => by rw [z] at y; cases y
  tk := tk
  fns := h.fns
  hfns := h.hfns
  free := h.free
  vals := h.vals
  clss := h.clss
  rais := h.rais
  flds := h.flds
  kc := h.kc
theorem XSt.tr (h : XSt X) {pn : List (Addr × Obj)} {xe : Value → Shared → Prop} (po : PassesOwn (model X.prog X.w) X.A X.env xe) : XSt (X.tr pn xe) := ⟨h.stack, h.frame, po⟩
/-- an except suite -/
theorem XOk.suite (h : XOk Γ C T n op W X) (z : Γ.hot = false) {a : Addr} {oe : Obj} {cl : Value} {d : Option Addr} {pn : List (Addr × Obj)} (hz : L2N.Zn cl d oe) (hf : ∃ vs, oe.data = .fields vs) : XOk { Γ with hot := true } C T n (some (a, oe)) W0 (X.suite a ((a, oe) :: pn)) where
  K := h.K
  N := h.N
  nd := h.nd
  sc := h.sc
  kind := h.kind
  st := h.st
  calm := fun y => by cases y
  hot := fun _ => by
    obtain ⟨vs, hv⟩ := hf
    exact ⟨(a, oe), rfl, ⟨⟨rfl, vs, hv, hz.2.2 vs hv⟩, List.mem_cons_self ..⟩, L2H.roomH_mark (h.calm z).2.2 _⟩
  tk := fun u s' ⟨_, _, _, _, _, _, _, _, _, _, _, _, _, _, _, _, w⟩ => w.elim
  fns := h.fns
  hfns := h.hfns
  free := h.free
  vals := h.vals
  clss := h.clss
  rais := h.rais
  flds := h.flds
  kc := h.kc
theorem XSt.suite (h : XSt X) {a : Addr} {pn : List (Addr × Obj)} : XSt (X.suite a pn) := ⟨h.stack, h.frame, PassesOwn.never⟩
/-- a comprehension's block -/
def Gm.blk (Γ : Gm) (scope : Scope) (own : List PySem.Str) : Gm := { Γ with scope := relS scope Γ.scope, st := own }
def ownB (Γ : Gm) (scope : Scope) (own : List PySem.Str) : Bool := decide (scope.kind = .function) && own.all fun x => scope.names.lookup x == some .local || scope.names.lookup x == some .cell
theorem XOk.blk (h : XOk Γ C T n op W X) (z : Γ.hot = false) {scope : Scope} {own : List PySem.Str} (hb : ownB Γ scope own = true) (s : Shared) (H : Hp) (Ca : Addr) (cl : List (PySem.Str × Addr)) (fp : List Addr) : XOk (Γ.blk scope own) C T n op W0 (X.blk s H scope (compEnvC scope cl Ca X.env) fp) where
  K := h.K
  N := h.N
  nd := h.nd
  sc := by
    show relabel scope X.env = relS scope Γ.scope
    rw [← h.sc] <;> rfl
  kind := by
    unfold ownB at hb
    rw [Bool.and_eq_true] at hb
    exact of_decide_eq_true hb.1
  st := fun x hx => by
    unfold ownB at hb
    rw [Bool.and_eq_true] at hb
    have := List.all_eq_true.mp hb.2 x hx
    rw [Bool.or_eq_true] at this
    rcases this with e | e
    · have e : scope.names.lookup x = some .local := by simpa using e
      have e2 : (relabel scope X.env).names.lookup x = some .local := lookup_relS_keep (sc := X.env.scope) (by decide) e
      exact ⟨.inl e2, .inr e2⟩
    · have e : scope.names.lookup x = some .cell := by simpa using e
      have e2 : (relabel scope X.env).names.lookup x = some .cell := lookup_relS_keep (sc := X.env.scope) (by decide) e
      refine ⟨.inr e2, .inl ?_⟩
      show (scope.names.lookup x == some .cell) = true
      rw [e] <;> rfl
  calm := h.calm
  hot := fun y => by
    have y : Γ.hot = true := y
    rw [z] at y; cases y
  tk := fun u s' ⟨_, _, _, _, _, _, _, _, _, _, _, _, _, _, _, _, w⟩ => w.elim
  fns := h.fns
  hfns := h.hfns
  free := h.free
  vals := h.vals
  clss := h.clss
  rais := h.rais
  flds := h.flds
  kc := h.kc
end
/-! ### names, checked -/
def findN : List PySem.Str → PySem.Str → Nat → Option Nat
  | [], _, _ => none
  | y :: r, x, i => bif y == x then some i else findN r x (i + 1)
def plainN (x : PySem.Str) : Bool := !(x == ("__debug__" : PySem.Str)) && !(x == ("__classdict__" : PySem.Str)) && !(x == ("__name__" : PySem.Str))
def visB (sc : Scope) (x : PySem.Str) : Bool := match sc.names.lookup x with
  | some .local => true
  | some .cell => true
  | some .free => true
  | _ => false
def glB (sc : Scope) (x : PySem.Str) : Bool := match sc.names.lookup x with
  | some .globalImplicit => true
  | _ => false
section
variable {Γ : Gm} {C : Cf} {T : NB.Tab} {n : Nat} {op : Hot} {W W' : WX} {X : Cx} {x : PySem.Str}
theorem visB_ok (h : XOk Γ C T n op W X) (v : visB Γ.scope x = true) : Vis X.env.scope x := by
  rw [h.sc]
  unfold visB at v
  split at v
  · rename_i e; exact .inl e
  · rename_i e; exact .inr (.inl e)
  · rename_i e; exact .inr (.inr e)
  · cases v
theorem glB_ok (h : XOk Γ C T n op W X) (v : glB Γ.scope x = true) : Gl X x := by
  unfold Gl PySem.Env.kindOf
  rw [h.sc]
  unfold glB at v
  split at v
  · rename_i e; exact e
  · cases v
theorem plainN_ok (v : plainN x = true) : (x == ("__debug__" : PySem.Str)) = false ∧ (x == ("__classdict__" : PySem.Str)) = false ∧ x ≠ ("__name__" : PySem.Str) := by
  unfold plainN at v
  simp only [Bool.and_eq_true, Bool.not_eq_true'] at v
  exact ⟨v.1.1, v.1.2, fun e => by rw [e] at v; simp at v⟩
end
end NB

set_option Elab.async false
set_option linter.all false
set_option maxRecDepth 100000
set_option maxHeartbeats 4000000
/-! Snd15: the compiler: each piece of text gets its combinators together with the proof that they are its reading. -/
noncomputable section
namespace NB
open PySem PySem.Spec L2
open PyProof.Rows hiding St

def CE (Γ : Gm) (e : Expr) : Type := { m : CallT → EE // ∀ C T n op W X, XOk Γ C T n op W X → PE X e (tE C op W (m (callF T n))) }
def CT (Γ : Gm) (e : Expr) : Type := { m : CallT → TT // ∀ C T n op W X, XOk Γ C T n op W X → PT X e (tT C op W (m (callF T n))) }
def CW (Γ : Gm) (e : Expr) : Type := { m : CallT → TT // ∀ C T n op W X, XOk Γ C T n op W X → PW X e (tT C op W (m (callF T n))) }
def CA (Γ : Gm) (es : List Expr) : Type := { m : CallT → AA // ∀ C T n op W X, XOk Γ C T n op W X → PA X es (tA C op W (m (callF T n))) }
def CI (Γ : Gm) (e : Expr) : Type := { m : CallT → II // ∀ C T n op W X, XOk Γ C T n op W X → ∀ tg, PI X tg e (tI C op W (m (callF T n))) }
def CG (Γ : Gm) (e : Expr) : Type := { p : TG × List Nat // ∀ C T n op W X A, XOk Γ C T n op W X → (∀ i ∈ p.2, A i = true) → PG X e (tG C op W A p.1) }
def CGs (Γ : Gm) (es : List Expr) : Type := { p : List TG × List Nat // (∀ C T n op W X A, XOk Γ C T n op W X → (∀ i ∈ p.2, A i = true) → PGs X es (tGs C op W A p.1)) ∧ p.1.length = es.length ∧ es.all notStar = true }
def CS (Γ : Gm) (s : Stmt) : Type := { p : (CallT → SS) × List Nat // ∀ C T n op W X A, XOk Γ C T n op W X → XSt X → (∀ i ∈ p.2, A i = true) → PS X s (tS C op W A (p.1 (callF T n))) }
def CSs (Γ : Gm) (s : List Stmt) : Type := { p : (CallT → SS) × List Nat // ∀ C T n op W X A, XOk Γ C T n op W X → XSt X → (∀ i ∈ p.2, A i = true) → PSs X s (tS C op W A (p.1 (callF T n))) }
structure Lv where
  e : (Γ : Gm) → (e : Expr) → Option (CE Γ e)
  t : (Γ : Gm) → (e : Expr) → Option (CT Γ e)
  w : (Γ : Gm) → (e : Expr) → Option (CW Γ e)
  a : (Γ : Gm) → (es : List Expr) → Option (CA Γ es)
  g : (Γ : Gm) → (e : Expr) → Option (CG Γ e)
  gs : (Γ : Gm) → (es : List Expr) → Option (CGs Γ es)
  s : (Γ : Gm) → (s : Stmt) → Option (CS Γ s)
  ss : (Γ : Gm) → (s : List Stmt) → Option (CSs Γ s)
def gd {α : Type} (b : Bool) (f : b = true → Option α) : Option α := if h : b = true then f h else none

theorem mem_lk {α β : Type} [BEq α] [LawfulBEq α] {a : α} {b : β} : ∀ {l : List (α × β)}, l.lookup a = some b → (a, b) ∈ l
  | (k, v) :: r, h => by
    rw [List.lookup_cons] at h
    cases e : a == k with
    | true =>
      rw [e] at h
      cases h
      rw [eq_of_beq e]
      exact List.mem_cons_self ..
    | false =>
      rw [e] at h
      exact List.mem_cons_of_mem _ (mem_lk h)
/-! ### tables -/
def binT : (o : Operator) → Option { k : D → D → M D // ∀ C X, X.K = C.K → Op2 C X (binaryOp o) k }
  | .Add => some ⟨addD, fun _ _ h => op2_add h⟩
  | .Sub => some ⟨subD, fun _ _ _ => op2_sub⟩
  | .Mult => some ⟨mulD, fun _ _ _ => op2_mul⟩
  | .FloorDiv => some ⟨fdivD, fun _ _ _ => op2_fdiv⟩
  | .Mod => some ⟨modD, fun _ _ _ => op2_mod⟩
  | .Pow => some ⟨powD, fun _ _ _ => op2_pow⟩
  | _ => none
def IsB (k : D → D → M D) : Prop := ∀ x y S d S', k x y S = .ok d S' → ∃ b, d = .bl b
theorem b_ret {b : Bool} {S S' : Store} {d : D} (h : ret (.bl b) S = .ok d S') : ∃ b, d = .bl b := by cases h; exact ⟨_, rfl⟩
theorem isB_eq : IsB eqD := fun x y S d S' h => by
  unfold eqD at h
  cases e : eqP x y with
  | none => rw [e] at h; cases h
  | some b => rw [e] at h; exact b_ret h
theorem isB_ne : IsB neD := fun x y S d S' h => by
  unfold neD at h
  cases e : eqP x y with
  | none => rw [e] at h; cases h
  | some b => rw [e] at h; exact b_ret h
theorem isB_lt : IsB ltD := fun x y S d S' h => by unfold ltD at h; split at h <;> first | exact b_ret h | cases h
theorem isB_le : IsB leD := fun x y S d S' h => by unfold leD at h; split at h <;> first | exact b_ret h | cases h
theorem isB_gt : IsB gtD := fun x y S d S' h => by unfold gtD at h; split at h <;> first | exact b_ret h | cases h
theorem isB_ge : IsB geD := fun x y S d S' h => by unfold geD at h; split at h <;> first | exact b_ret h | cases h
theorem isB_in : IsB inD := fun x y S d S' h => by
  unfold inD bnd at h
  split at h
  · exact b_ret h
  · cases h
  · cases h
theorem isB_nin : IsB ninD := fun x y S d S' h => by
  unfold ninD bnd at h
  split at h
  · exact b_ret h
  · cases h
  · cases h
theorem isB_is : IsB isD := fun x y S d S' h => by
  unfold isD at h
  split at h
  · unfold isNonD at h
    split at h <;> first | exact b_ret h | cases h
  · cases h
theorem isB_isnt : IsB isntD := fun x y S d S' h => by
  unfold isntD at h
  split at h
  · unfold notNonD at h
    split at h <;> first | exact b_ret h | cases h
  · cases h
def cmpT : (o : CmpOp) → Option { k : D → D → M D // (∀ C X, X.K = C.K → Op2 C X (compareOp o) k) ∧ IsB k }
  | .Eq => some ⟨eqD, fun _ _ _ => op2_eq, isB_eq⟩
  | .NotEq => some ⟨neD, fun _ _ _ => op2_ne, isB_ne⟩
  | .Lt => some ⟨ltD, fun _ _ _ => op2_lt, isB_lt⟩
  | .LtE => some ⟨leD, fun _ _ _ => op2_le, isB_le⟩
  | .Gt => some ⟨gtD, fun _ _ _ => op2_gt, isB_gt⟩
  | .GtE => some ⟨geD, fun _ _ _ => op2_ge, isB_ge⟩
  | .Is => some ⟨isD, fun _ _ _ => op2_is, isB_is⟩
  | .IsNot => some ⟨isntD, fun _ _ _ => op2_isnt, isB_isnt⟩
  | .In => some ⟨inD, fun _ _ h => op2_in h, isB_in⟩
  | .NotIn => some ⟨ninD, fun _ _ h => op2_nin h, isB_nin⟩
def cstD : Const → Option D
  | .none => some .non
  | .bool b => some (.bl b)
  | .int i => some (.int i)
  | .str s => bif decide (s.length ≤ SZ) then some (.str s.cps.toList) else none
  | _ => none
theorem cstD_ok {c : Const} {d : D} (h : cstD c = some d) : CstOk c d := by
  cases c with
  | none => cases h; rfl
  | bool b => cases h; rfl
  | int i => cases h; rfl
  | str s =>
    unfold cstD at h
    dsimp only at h
    cases q : decide (s.length ≤ SZ) with
    | true => rw [q] at h; cases h; exact ⟨rfl, of_decide_eq_true q⟩
    | false => rw [q] at h; cases h
  | _ => cases h
/-- a built-in that is called -/
structure BI where
  o : List D → M D
  calm : Bool
def BIok (x : PySem.Str) (b : BI) : Prop := ∀ C X, X.K = C.K → (b.calm = true → X.calm = true) → (∃ id, bootBuiltins x = some (.builtin id) ∧ OpN C X (.builtin id) b.o) ∨ (∃ T, bootBuiltins x = some (.type T) ∧ OpN C X (.type T) b.o)
theorem seq {x y : PySem.Str} (h : (x == y) = true) : x = y := eq_of_beq h
def biT (x : PySem.Str) : Option { b : BI // BIok x b } :=
  if h : (x == ("len" : PySem.Str)) = true then some ⟨⟨one lenD, false⟩, fun C X hK _ => .inl ⟨"len", by rw [seq h]; decide +kernel, opn_len hK⟩⟩
  else if h : (x == ("int" : PySem.Str)) = true then some ⟨⟨one intD, false⟩, fun C X hK _ => .inr ⟨"int", by rw [seq h]; decide +kernel, opn_int⟩⟩
  else if h : (x == ("list" : PySem.Str)) = true then some ⟨⟨one listD, false⟩, fun C X hK _ => .inr ⟨"list", by rw [seq h]; decide +kernel, opn_list hK⟩⟩
  else if h : (x == ("tuple" : PySem.Str)) = true then some ⟨⟨one tupleD, false⟩, fun C X hK _ => .inr ⟨"tuple", by rw [seq h]; decide +kernel, opn_tuple hK⟩⟩
  else if h : (x == ("abs" : PySem.Str)) = true then some ⟨⟨one absD, false⟩, fun C X hK _ => .inl ⟨"abs", by rw [seq h]; decide +kernel, opn_abs⟩⟩
  else if h : (x == ("str" : PySem.Str)) = true then some ⟨⟨one strD, false⟩, fun C X hK _ => .inr ⟨"str", by rw [seq h]; decide +kernel, opn_str⟩⟩
  else if h : (x == ("max" : PySem.Str)) = true then some ⟨⟨maxD, true⟩, fun C X hK hc => .inl ⟨"max", by rw [seq h]; decide +kernel, opn_max (hc rfl)⟩⟩
  else if h : (x == ("min" : PySem.Str)) = true then some ⟨⟨minD, true⟩, fun C X hK hc => .inl ⟨"min", by rw [seq h]; decide +kernel, opn_min (hc rfl)⟩⟩
  else none
def meT (x : PySem.Str) : Option { p : (D → M Unit) × (D → List D → M D) // ∀ C X, X.K = C.K → MethOk C X x p.1 p.2 } :=
  if h : (x == ("append" : PySem.Str)) = true then some ⟨(lstK, m1 appendD), fun C X hK => by rw [seq h]; exact mo_append hK⟩
  else if h : (x == ("reverse" : PySem.Str)) = true then some ⟨(lstK, m0 reverseD), fun C X hK => by rw [seq h]; exact mo_reverse hK⟩
  else if h : (x == ("extend" : PySem.Str)) = true then some ⟨(lstK, m1 extendD), fun C X hK => by rw [seq h]; exact mo_extend hK⟩
  else if h : (x == ("pop" : PySem.Str)) = true then some ⟨(lstK, m1 popAtD), fun C X hK => by rw [seq h]; exact mo_pop hK⟩
  else if h : (x == ("join" : PySem.Str)) = true then some ⟨(strK, m1 joinD), fun C X hK => by rw [seq h]; exact mo_join hK⟩
  else if h : (x == ("split" : PySem.Str)) = true then some ⟨(strK, m1 splitD), fun C X hK => by rw [seq h]; exact mo_split⟩
  else if h : (x == ("index" : PySem.Str)) = true then some ⟨(strK, m1 indexD), fun C X hK => by rw [seq h]; exact mo_index⟩
  else if h : (x == ("strip" : PySem.Str)) = true then some ⟨(strK, m1 stripD), fun C X hK => by rw [seq h]; exact mo_strip⟩
  else none
/-! ### class names -/
def tyT (x : PySem.Str) : Option { k : Kd // isCls k = false ∧ bootBuiltins x = some (.type (kname k)) } :=
  if h : (x == ("int" : PySem.Str)) = true then some ⟨.int, rfl, by rw [seq h]; decide +kernel⟩
  else if h : (x == ("bool" : PySem.Str)) = true then some ⟨.bool, rfl, by rw [seq h]; decide +kernel⟩
  else if h : (x == ("str" : PySem.Str)) = true then some ⟨.str, rfl, by rw [seq h]; decide +kernel⟩
  else if h : (x == ("tuple" : PySem.Str)) = true then some ⟨.tuple, rfl, by rw [seq h]; decide +kernel⟩
  else if h : (x == ("list" : PySem.Str)) = true then some ⟨.list, rfl, by rw [seq h]; decide +kernel⟩
  else if h : (x == ("dict" : PySem.Str)) = true then some ⟨.dict, rfl, by rw [seq h]; decide +kernel⟩
  else if h : (x == ("ValueError" : PySem.Str)) = true then some ⟨.verr, rfl, by rw [seq h]; decide +kernel⟩
  else none
theorem kdOk_of {C : Cf} {k : Kd} (h : isCls k = false) : kdOk C k = true := by cases k <;> first | rfl | cases h
theorem kV_of {C : Cf} {k : Kd} (h : isCls k = false) : kV C k = .ty (kname k) := by cases k <;> first | rfl | cases h
def CK (Γ : Gm) (e : Expr) : Type := { k : Kd // ∀ C T n op W X, XOk Γ C T n op W X → ClsE C X e k }
def clsN (Γ : Gm) : (e : Expr) → Option (CK Γ e)
  | .Name x pos => gd (glB Γ.scope x && plainN x) fun h =>
    match h2 : Γ.clss.lookup x with
    | some c => some ⟨.cls c, fun C T n op W X hX => by
        rw [Bool.and_eq_true] at h
        obtain ⟨q1, q2⟩ := hX.clss x c (mem_lk h2)
        exact ⟨decide_eq_true q2, pe_glob (glB_ok hX h.1) q1 (show RelV (V.ref (C.cad c)) (.ref (C.cad c)) from rfl) (plainN_ok h.2).1, rfl⟩⟩
    | none => match tyT x with
      | some k => gd (Γ.free.contains x) fun h3 => some ⟨k.1, fun C T n op W X hX => by
          rw [Bool.and_eq_true] at h
          refine ⟨kdOk_of k.2.1, ?_, rfl⟩
          rw [kV_of k.2.1]
          exact pe_bltn (glB_ok hX h.1) (hX.free x (by simpa using h3)) k.2.2 (show RelV (V.ty (kname k.1)) (.type (kname k.1)) from rfl) (plainN_ok h.2).2.2 (plainN_ok h.2).1⟩
      | none => none
  | _ => none
def CKs (Γ : Gm) (es : List Expr) : Type := { ks : List Kd // ∀ C T n op W X, XOk Γ C T n op W X → ClsEs C X es ks }
def clsNs (Γ : Gm) : (es : List Expr) → Option (CKs Γ es)
  | [] => some ⟨[], fun _ _ _ _ _ _ _ => trivial⟩
  | e :: es => match clsN Γ e, clsNs Γ es with
    | some k, some ks => some ⟨k.1 :: ks.1, fun C T n op W X hX => ⟨k.2 C T n op W X hX, ks.2 C T n op W X hX⟩⟩
    | _, _ => none
/-! ### expressions -/
section
variable (L : Lv) (Γ : Gm)
def stName (x : PySem.Str) (pos : Pos) : Option (CE Γ (.Name x pos)) := gd (plainN x) fun hp =>
  match findN Γ.N x 0 with
  | some i => gd (Γ.N[i]? == some x && visB Γ.scope x) fun h => some ⟨fun _ => varE i, fun C T n op W X hX => by
      rw [Bool.and_eq_true] at h
      exact ge_var (by rw [hX.N]; exact eq_of_beq h.1) (visB_ok hX h.2) (plainN_ok hp).1 (plainN_ok hp).2.1⟩
  | none => match h : Γ.vals.lookup x with
    | some d => gd (glB Γ.scope x) fun h2 => some ⟨fun _ => cstE d, fun C T n op W X hX => ge_glob (glB_ok hX h2) (hX.vals x d (mem_lk h)) (plainN_ok hp).1⟩
    | none => none
def stIsi (x : PySem.Str) (p pos : Pos) : (args : List Expr) → Option (CE Γ (.Call (.Name x p) args [] pos))
  | [a, .Tuple es j pt] => gd (x == ("isinstance" : PySem.Str) && glB Γ.scope x && Γ.free.contains x && notStar a) fun h =>
    match L.e Γ a, clsNs Γ es with
    | some ma, some ks => gd (decide (ks.1.length ≤ 100)) fun h3 => some ⟨fun c => op1E (isiD ks.1) (ma.1 c), fun C T n op W X hX => by
        simp only [Bool.and_eq_true] at h
        obtain ⟨⟨⟨h1, h2⟩, h4⟩, h5⟩ := h
        have e := seq h1
        subst e
        exact ge_isiT hX.kc hX.K hX.opin (glB_ok hX h2) (hX.free _ (by simpa using h4)) (ma.2 C T n op W X hX) h5 (ks.2 C T n op W X hX) (by rw [sizeLine_eq]; have := of_decide_eq_true h3; omega)⟩
    | _, _ => none
  | [a, e] => gd (x == ("isinstance" : PySem.Str) && glB Γ.scope x && Γ.free.contains x && notStar a) fun h =>
    match L.e Γ a, clsN Γ e with
    | some ma, some k => some ⟨fun c => op1E (isiD [k.1]) (ma.1 c), fun C T n op W X hX => by
        simp only [Bool.and_eq_true] at h
        obtain ⟨⟨⟨h1, h2⟩, h4⟩, h5⟩ := h
        have e := seq h1
        subst e
        exact ge_isi hX.kc hX.K hX.opin (glB_ok hX h2) (hX.free _ (by simpa using h4)) (ma.2 C T n op W X hX) h5 (k.2 C T n op W X hX)⟩
    | _, _ => none
  | _ => none
def stCall (x : PySem.Str) (p pos : Pos) : (args : List Expr) → Option (CE Γ (.Call (.Name x p) args [] pos))
  | [] => none
  | e :: es => gd (glB Γ.scope x && plainN x && (e :: es).all notStar) fun h =>
    match L.a Γ (e :: es) with
    | none => none
    | some ms => match h2 : Γ.hot with
      | false => (match h3 : Γ.fns.lookup (x, (e :: es).length) with
        | some fd => some ⟨fun c => callE c fd.1 fd.2 (ms.1 c), fun C T n op W X hX => by
            rw [Bool.and_eq_true, Bool.and_eq_true] at h
            obtain ⟨q1, q2, q3⟩ := hX.calm h2
            exact ge_call hX.K q3 hX.tk q1 (hX.fns x _ fd.1 fd.2 (mem_lk h3)) (glB_ok hX h.1.1) (ms.2 C T n op W X hX) h.2 (plainN_ok h.1.2).1⟩
        | none => match biT x with
          | some b => gd (Γ.free.contains x) fun h4 => some ⟨fun c => opnE b.1.o (ms.1 c), fun C T n op W X hX => by
              rw [Bool.and_eq_true, Bool.and_eq_true] at h
              rcases b.2 C X hX.K (fun _ => (hX.calm h2).2.1) with ⟨id, e1, e2⟩ | ⟨ty, e1, e2⟩
              · exact ge_callB e2 (glB_ok hX h.1.1) (hX.free x (by simpa using h4)) e1 (ms.2 C T n op W X hX) h.2 (plainN_ok h.1.2).2.2 (plainN_ok h.1.2).1
              · exact ge_callTy e2 (glB_ok hX h.1.1) (hX.free x (by simpa using h4)) e1 (ms.2 C T n op W X hX) h.2 (plainN_ok h.1.2).2.2 (plainN_ok h.1.2).1⟩
          | none => none)
      | true => (match h3 : Γ.hfns.lookup (x, (e :: es).length) with
        | some fd => some ⟨fun c => callE c fd.1 fd.2 (ms.1 c), fun C T n op W X hX => by
            rw [Bool.and_eq_true, Bool.and_eq_true] at h
            obtain ⟨q, q1, q2, q3⟩ := hX.hot h2
            exact ge_callH hX.K q3 hX.tk q1 q2 (hX.hfns x _ fd.1 fd.2 (mem_lk h3)) (glB_ok hX h.1.1) (ms.2 C T n op W X hX) h.2 (plainN_ok h.1.2).1⟩
        | none => match biT x with
          | some b => gd (Γ.free.contains x && !b.1.calm) fun h4 => some ⟨fun c => opnE b.1.o (ms.1 c), fun C T n op W X hX => by
              rw [Bool.and_eq_true, Bool.and_eq_true] at h
              rw [Bool.and_eq_true] at h4
              rcases b.2 C X hX.K (fun z => by rw [z] at h4; exact absurd h4.2 (by decide)) with ⟨id, e1, e2⟩ | ⟨ty, e1, e2⟩
              · exact ge_callB e2 (glB_ok hX h.1.1) (hX.free x (by simpa using h4.1)) e1 (ms.2 C T n op W X hX) h.2 (plainN_ok h.1.2).2.2 (plainN_ok h.1.2).1
              · exact ge_callTy e2 (glB_ok hX h.1.1) (hX.free x (by simpa using h4.1)) e1 (ms.2 C T n op W X hX) h.2 (plainN_ok h.1.2).2.2 (plainN_ok h.1.2).1⟩
          | none => none)
def stMeth (o : Expr) (name : PySem.Str) (apos pos : Pos) : (args : List Expr) → Option (CE Γ (.Call (.Attribute o name apos) args [] pos))
  | [] => gd (notSuper o && (apos.endLine == pos.line)) fun h =>
    match L.e Γ o, meT name with
    | some mo, some k => some ⟨fun c => methE k.1.1 k.1.2 (mo.1 c) nilA, fun C T n op W X hX => by
        rw [Bool.and_eq_true] at h
        exact ge_meth0 (k.2 C X hX.K) (mo.2 C T n op W X hX) (base_plain h.1 _ _) h.2⟩
    | _, _ => none
  | e :: es => gd (notSuper o && (apos.endLine == pos.line) && (e :: es).all notStar && decide ((e :: es).length < 29)) fun h =>
    match L.e Γ o, meT name, L.a Γ (e :: es) with
    | some mo, some k, some ms => some ⟨fun c => methE k.1.1 k.1.2 (mo.1 c) (ms.1 c), fun C T n op W X hX => by
        simp only [Bool.and_eq_true] at h
        exact ge_meth (k.2 C X hX.K) (mo.2 C T n op W X hX) (ms.2 C T n op W X hX) (base_plain h.1.1.1 _ _) h.1.1.2 h.1.2 (of_decide_eq_true h.2)⟩
    | _, _, _ => none
def stSub (a : Expr) (pos : Pos) : (b : Expr) → Option (CE Γ (.Subscript a b pos))
  | .Slice none none (some (.UnaryOp .USub (.Constant (.int 1) k p1) p2)) p3 => match L.e Γ a with
    | some ma => some ⟨fun c => op1E backD (ma.1 c), fun C T n op W X hX => ge_back hX.K (ma.2 C T n op W X hX)⟩
    | none => none
  | .Slice none none none p2 => match L.e Γ a with
    | some ma => some ⟨fun c => sliceE (ma.1 c) none none, fun C T n op W X hX => ge_slice00 hX.K (ma.2 C T n op W X hX)⟩
    | none => none
  | .Slice (some lo) none none p2 => match L.e Γ a, L.e Γ lo with
    | some ma, some ml => some ⟨fun c => sliceE (ma.1 c) (some (ml.1 c)) none, fun C T n op W X hX => ge_slice10 hX.K (ma.2 C T n op W X hX) (ml.2 C T n op W X hX)⟩
    | _, _ => none
  | .Slice none (some hi) none p2 => match L.e Γ a, L.e Γ hi with
    | some ma, some mh => some ⟨fun c => sliceE (ma.1 c) none (some (mh.1 c)), fun C T n op W X hX => ge_slice01 hX.K (ma.2 C T n op W X hX) (mh.2 C T n op W X hX)⟩
    | _, _ => none
  | .Slice (some lo) (some hi) none p2 => match L.e Γ a, L.e Γ lo, L.e Γ hi with
    | some ma, some ml, some mh => some ⟨fun c => sliceE (ma.1 c) (some (ml.1 c)) (some (mh.1 c)), fun C T n op W X hX => ge_slice11 hX.K (ma.2 C T n op W X hX) (ml.2 C T n op W X hX) (mh.2 C T n op W X hX)⟩
    | _, _, _ => none
  | b => gd (plainIx b) fun h => match L.e Γ a, L.e Γ b with
    | some ma, some mb => some ⟨fun c => op2E subsD (ma.1 c) (mb.1 c), fun C T n op W X hX => ge_sub hX.K (ma.2 C T n op W X hX) (mb.2 C T n op W X hX) h⟩
    | _, _ => none
/-- what is walked -/
def stIter : (e : Expr) → Option (CI Γ e)
  | .Call (.Name x p) [a] [] pos => gd (x == ("range" : PySem.Str) && glB Γ.scope x && Γ.free.contains x && [a].all notStar) fun h =>
    match L.a Γ [a] with
    | some ms => some ⟨fun c => rangeI1 (ms.1 c), fun C T n op W X hX tg => by
        simp only [Bool.and_eq_true] at h
        obtain ⟨⟨⟨h1, h2⟩, h4⟩, h5⟩ := h
        have e := seq h1
        subst e
        exact gi_range1 (glB_ok hX h2) (hX.free _ (by simpa using h4)) (ms.2 C T n op W X hX) h5⟩
    | none => none
  | .Call (.Name x p) [a, b] [] pos => gd (x == ("range" : PySem.Str) && glB Γ.scope x && Γ.free.contains x && [a, b].all notStar) fun h =>
    match L.a Γ [a, b] with
    | some ms => some ⟨fun c => rangeI2 (ms.1 c), fun C T n op W X hX tg => by
        simp only [Bool.and_eq_true] at h
        obtain ⟨⟨⟨h1, h2⟩, h4⟩, h5⟩ := h
        have e := seq h1
        subst e
        exact gi_range2 (glB_ok hX h2) (hX.free _ (by simpa using h4)) (ms.2 C T n op W X hX) h5⟩
    | none => none
  | e => match L.e Γ e with
    | some me => some ⟨fun c => seqI (me.1 c), fun C T n op W X hX tg => gi_seq hX.K (me.2 C T n op W X hX)⟩
    | none => none
/-- a def's name is asked first -/
def orElse' {α : Type} (a b : Option α) : Option α := match a with
  | some x => some x
  | none => b
def itN (e : Expr) : Option (CI Γ e) := match stIter L Γ e with
  | some i => some i
  | none => match L.e Γ e with
    | some me => some ⟨fun c => seqI (me.1 c), fun C T n op W X hX tg => gi_seq hX.K (me.2 C T n op W X hX)⟩
    | none => none
/-- the block's own names, with their places -/
def ownOf (N : List PySem.Str) : List (PySem.Str × NameKind) → List (PySem.Str × Nat)
  | [] => []
  | (x, k) :: r => bif k == .local || k == .cell then (match findN N x 0 with
    | some i => (x, i) :: ownOf N r
    | none => ownOf N r) else ownOf N r
/-- a comprehension's parts -/
structure LcP (Γ : Gm) (elt tg iter : Expr) (ifs : List Expr) (scope : Scope) : Type where
  own : List (PySem.Str × Nat)
  i : CallT → II
  g : TG
  t : CallT → TT
  e : CallT → EE
  hot : Γ.hot = false
  ns : notSet iter = true
  blk : blkB Γ.N Γ.scope scope own = true
  hi : ∀ C T n op W X, XOk Γ C T n op W X → PI X tg iter (tI C op W (i (callF T n)))
  hg : ∀ C T n op W X, XOk Γ C T n op W X → ∀ (s : Shared) (H : Hp) (C' : Addr) (cl : List (PySem.Str × Addr)) (fp : List Addr), PG (X.blk s H scope (compEnvC scope cl C' X.env) fp) tg (tG C op W0 (fun i => (own.map (·.2)).contains i) g)
  ht : ∀ C T n op W X, XOk Γ C T n op W X → ∀ (s : Shared) (H : Hp) (C' : Addr) (cl : List (PySem.Str × Addr)) (fp : List Addr), PTs (X.blk s H scope (compEnvC scope cl C' X.env) fp) ifs (tT C op W0 (t (callF T n)))
  he : ∀ C T n op W X, XOk Γ C T n op W X → ∀ (s : Shared) (H : Hp) (C' : Addr) (cl : List (PySem.Str × Addr)) (fp : List Addr), PE (X.blk s H scope (compEnvC scope cl C' X.env) fp) elt (tE C op W0 (e (callF T n)))
def stIfs (Γ : Gm) : (ifs : List Expr) → Option { m : CallT → TT // ∀ C T n op X, XOk Γ C T n op W0 X → PTs X ifs (tT C op W0 (m (callF T n))) }
  | [] => some ⟨fun _ => yesT, fun _ _ _ _ _ _ => gts_nil⟩
  | [c] => match L.t Γ c with
    | some mt => some ⟨mt.1, fun C T n op X hX => gts_one (mt.2 C T n op W0 X hX)⟩
    | none => none
  | _ => none
def stLc (elt tg iter : Expr) (ifs : List Expr) (scope : Scope) : Option (LcP Γ elt tg iter ifs scope) :=
  match h0 : Γ.hot with
  | true => none
  | false =>
    gd (notSet iter && blkB Γ.N Γ.scope scope (ownOf Γ.N scope.names) && ownB Γ scope ((ownOf Γ.N scope.names).map (·.1))) fun h =>
    match itN L Γ iter, L.g (Γ.blk scope ((ownOf Γ.N scope.names).map (·.1))) tg, stIfs L (Γ.blk scope ((ownOf Γ.N scope.names).map (·.1))) ifs, L.e (Γ.blk scope ((ownOf Γ.N scope.names).map (·.1))) elt with
    | some mi, some mg, some mt, some me => gd (mg.1.2.all fun i => ((ownOf Γ.N scope.names).map (·.2)).contains i) fun h2 =>
      have h' : (notSet iter = true ∧ blkB Γ.N Γ.scope scope (ownOf Γ.N scope.names) = true) ∧ ownB Γ scope ((ownOf Γ.N scope.names).map (·.1)) = true := by
        rw [Bool.and_eq_true, Bool.and_eq_true] at h
        exact h
      some ⟨ownOf Γ.N scope.names, mi.1, mg.1.1, mt.1, me.1, h0, h'.1.1, h'.1.2, fun C T n op W X hX => mi.2 C T n op W X hX tg,
        fun C T n op W X hX s H C' cl fp => mg.2 C T n op W0 _ _ (hX.blk h0 h'.2 s H C' cl fp) fun i hi => List.all_eq_true.mp h2 i hi,
        fun C T n op W X hX s H C' cl fp => mt.2 C T n op _ (hX.blk h0 h'.2 s H C' cl fp),
        fun C T n op W X hX s H C' cl fp => me.2 C T n op W0 _ (hX.blk h0 h'.2 s H C' cl fp)⟩
    | _, _, _, _ => none
def stE : (e : Expr) → Option (CE Γ e)
  | .Name x pos => stName Γ x pos
  | .Constant c k pos => match h : cstD c with
    | some d => some ⟨fun _ => cstE d, fun C T n op W X hX => ge_cst (cstD_ok h)⟩
    | none => none
  | .BinOp a o b pos => match binT o, L.e Γ a, L.e Γ b with
    | some k, some ma, some mb => some ⟨fun c => op2E k.1 (ma.1 c) (mb.1 c), fun C T n op W X hX => ge_bin (k.2 C X hX.K) (ma.2 C T n op W X hX) (mb.2 C T n op W X hX)⟩
    | _, _, _ => none
  | .UnaryOp .USub a pos => match L.e Γ a with
    | some ma => some ⟨fun c => op1E negD (ma.1 c), fun C T n op W X hX => ge_un op1_neg (ma.2 C T n op W X hX)⟩
    | none => none
  | .UnaryOp .Not a pos => match L.e Γ a with
    | some ma => some ⟨fun c => notE (ma.1 c), fun C T n op W X hX => ge_not hX.K (ma.2 C T n op W X hX)⟩
    | none => none
  | .BoolOp o [a] pos => match L.e Γ a with
    | some ma => some ⟨ma.1, fun C T n op W X hX => ge_one (ma.2 C T n op W X hX)⟩
    | none => none
  | .BoolOp .And (a :: b :: rest) pos => match L.e Γ a, L.e Γ (.BoolOp .And (b :: rest) pos) with
    | some ma, some mb => some ⟨fun c => andE (ma.1 c) (mb.1 c), fun C T n op W X hX => ge_and hX.K (ma.2 C T n op W X hX) (mb.2 C T n op W X hX)⟩
    | _, _ => none
  | .BoolOp .Or (a :: b :: rest) pos => match L.e Γ a, L.e Γ (.BoolOp .Or (b :: rest) pos) with
    | some ma, some mb => some ⟨fun c => orE (ma.1 c) (mb.1 c), fun C T n op W X hX => ge_or hX.K (ma.2 C T n op W X hX) (mb.2 C T n op W X hX)⟩
    | _, _ => none
  | .IfExp c a b pos => match L.t Γ c, L.e Γ a, L.e Γ b with
    | some mc, some ma, some mb => some ⟨fun k => iteE (mc.1 k) (ma.1 k) (mb.1 k), fun C T n op W X hX => ge_ite (mc.2 C T n op W X hX) (ma.2 C T n op W X hX) (mb.2 C T n op W X hX)⟩
    | _, _, _ => none
  | .Compare a [o] [b] pos => match cmpT o, L.e Γ a, L.e Γ b with
    | some k, some ma, some mb => gd (!behindInMarks o b) fun h => some ⟨fun c => op2E k.1 (ma.1 c) (mb.1 c), fun C T n op W X hX => ge_cmp (k.2.1 C X hX.K) (ma.2 C T n op W X hX) (mb.2 C T n op W X hX) (by simpa using h)⟩
    | _, _, _ => none
  | .Compare a [o, o'] [b, c] pos => match cmpT o, cmpT o', L.e Γ a, L.e Γ b, L.e Γ c with
    | some k, some k', some ma, some mb, some mc => gd (!lastMarks [o, o'] [b, c]) fun h => some ⟨fun f => chainE k.1 k'.1 (ma.1 f) (mb.1 f) (mc.1 f), fun C T n op W X hX => ge_chain (k.2.1 C X hX.K) (k'.2.1 C X hX.K) (ma.2 C T n op W X hX) (mb.2 C T n op W X hX) (mc.2 C T n op W X hX) (by simpa using h)⟩
    | _, _, _, _, _ => none
  | .Call (.Name x p) args [] pos => bif x == ("isinstance" : PySem.Str) then stIsi L Γ x p pos args else stCall L Γ x p pos args
  | .Call (.Attribute o name apos) args [] pos => stMeth L Γ o name apos pos args
  | .Attribute a f pos => match h : Γ.flds.lookup f with
    | some t => gd (notSuper a) fun h2 => (match L.e Γ a with
      | some ma => some ⟨fun c => op1E (xfldD t) (ma.1 c), fun C T n op W X hX => ge_fld hX.kc hX.K hX.opin (hX.flds f t (mem_lk h)) (ma.2 C T n op W X hX) (base_plain h2 _ _)⟩
      | none => none)
    | none => none
  | .Subscript a b pos => stSub L Γ a pos b
  | .Tuple es k pos => match L.a Γ es with
    | some ms => some ⟨fun c => opnE mkTup (ms.1 c), fun C T n op W X hX => ge_tup (ms.2 C T n op W X hX)⟩
    | none => none
  | .List es pos => match L.a Γ es with
    | some ms => some ⟨fun c => opnE newL (ms.1 c), fun C T n op W X hX => ge_lst (ms.2 C T n op W X hX)⟩
    | none => none
  | .ListComp elt [⟨tg, iter, ifs, 0⟩] scope pos => match stLc L Γ elt tg iter ifs scope with
    | some P => some ⟨fun c => compE (P.own.map (·.2)) (P.i c) P.g (P.t c) (P.e c), fun C T n op W X hX => ge_lc (hX.calm P.hot).2.1 hX.nd (P.hi C T n op W X hX) (by rw [hX.N, hX.sc]; exact P.blk) (P.hg C T n op W X hX) (P.ht C T n op W X hX) (P.he C T n op W X hX) P.ns⟩
    | none => none
  | _ => none
def stT : (e : Expr) → Option (CT Γ e)
  | .Compare a [o] [b] pos => match cmpT o, L.e Γ a, L.e Γ b with
    | some k, some ma, some mb => gd (!behindInMarks o b) fun h => some ⟨fun c => valT (op2E k.1 (ma.1 c) (mb.1 c)), fun C T n op W X hX => gt_cmp (k.2.1 C X hX.K) (ma.2 C T n op W X hX) (mb.2 C T n op W X hX) (by simpa using h) k.2.2⟩
    | _, _, _ => none
  | .UnaryOp .Not a pos => match L.t Γ a with
    | some ma => some ⟨fun c => notT (ma.1 c), fun C T n op W X hX => gt_not (ma.2 C T n op W X hX)⟩
    | none => none
  | .BoolOp o vs pos => match L.w Γ (.BoolOp o vs pos) with
    | some mw => some ⟨mw.1, fun C T n op W X hX => (mw.2 C T n op W X hX).pt⟩
    | none => none
  | e => gd (plainTest e) fun h => match L.e Γ e with
    | some me => some ⟨fun c => valT (me.1 c), fun C T n op W X hX => gt_val hX.K (me.2 C T n op W X hX) h⟩
    | none => none
def stW : (e : Expr) → Option (CW Γ e)
  | .BoolOp .And [a] pos => match L.t Γ a with
    | some ma => some ⟨ma.1, fun C T n op W X hX => gw_one_and (ma.2 C T n op W X hX)⟩
    | none => none
  | .BoolOp .Or [a] pos => match L.t Γ a with
    | some ma => some ⟨ma.1, fun C T n op W X hX => gw_one_or (ma.2 C T n op W X hX)⟩
    | none => none
  | .BoolOp .And (a :: b :: rest) pos => match L.t Γ a, L.w Γ (.BoolOp .And (b :: rest) pos) with
    | some ma, some mb => some ⟨fun c => andT (ma.1 c) (mb.1 c), fun C T n op W X hX => gw_and (ma.2 C T n op W X hX) (mb.2 C T n op W X hX)⟩
    | _, _ => none
  | .BoolOp .Or (a :: b :: rest) pos => match L.t Γ a, L.w Γ (.BoolOp .Or (b :: rest) pos) with
    | some ma, some mb => some ⟨fun c => orT (ma.1 c) (mb.1 c), fun C T n op W X hX => gw_or (ma.2 C T n op W X hX) (mb.2 C T n op W X hX)⟩
    | _, _ => none
  | _ => none
def stA : (es : List Expr) → Option (CA Γ es)
  | [] => some ⟨fun _ => nilA, fun _ _ _ _ _ _ _ => ga_nil⟩
  | e :: es => gd (notStar e) fun h => match L.e Γ e, L.a Γ es with
    | some me, some ms => some ⟨fun c => consA (me.1 c) (ms.1 c), fun C T n op W X hX => ga_cons h (me.2 C T n op W X hX) (ms.2 C T n op W X hX)⟩
    | _, _ => none
def stG : (e : Expr) → Option (CG Γ e)
  | .Name x pos => match findN Γ.N x 0 with
    | some i => gd (Γ.N[i]? == some x && Γ.st.contains x) fun h => some ⟨(nameG i, [i]), fun C T n op W X A hX hA => by
        rw [Bool.and_eq_true] at h
        obtain ⟨q1, q2⟩ := hX.st x (by simpa using h.2)
        exact gg_name hX.nd (by rw [hX.N]; exact eq_of_beq h.1) q1 q2 (hA i (List.mem_cons_self ..))⟩
    | none => none
  | .Tuple es k pos => match h0 : Γ.hot with
    | true => none
    | false => match L.gs Γ es with
      | some mg => some ⟨(tupG mg.1.1, mg.1.2), fun C T n op W X A hX hA => gg_tup hX.K (hX.calm h0).2.1 mg.2.2.2 mg.2.2.1 (mg.2.1 C T n op W X A hX hA)⟩
      | none => none
  | _ => none
def stGs : (es : List Expr) → Option (CGs Γ es)
  | [] => some ⟨([], []), fun _ _ _ _ _ _ _ _ _ => ggs_nil, rfl, rfl⟩
  | e :: es => gd (notStar e) fun h => match L.g Γ e, L.gs Γ es with
    | some m, some ms => some ⟨(m.1.1 :: ms.1.1, m.1.2 ++ ms.1.2), fun C T n op W X A hX hA => ggs_cons h (m.2 C T n op W X A hX fun i hi => hA i (List.mem_append_left _ hi)) (ms.2.1 C T n op W X A hX fun i hi => hA i (List.mem_append_right _ hi)),
        by rw [List.length_cons, List.length_cons, ms.2.2.1], by rw [List.all_cons, h, ms.2.2.2] <;> rfl⟩
    | _, _ => none
end
end NB
end

set_option Elab.async false
set_option linter.all false
set_option maxRecDepth 100000
set_option maxHeartbeats 4000000
/-! Snd16: the compiler's statements; its levels. -/
noncomputable section
namespace NB
open PySem PySem.Spec L2
open PyProof.Rows hiding St

section
variable (L : Lv) (Γ : Gm)
def stForH (tg : Expr) (body : List Stmt) (pos : Pos) (hh : Γ.hot = true) : (iter : Expr) → Option (CS Γ (.For tg iter body [] pos))
  | .Call (.Name x p) [a] [] pos' => gd (x == ("range" : PySem.Str) && glB Γ.scope x && Γ.free.contains x && notStar a) fun h =>
    match L.a Γ [a], L.g Γ tg, L.ss Γ body with
    | some ms, some mg, some mb => some ⟨(fun c => forS (rangeI1 (ms.1 c)) mg.1.1 (mb.1.1 c), mg.1.2 ++ mb.1.2), fun C T n op W X A hX hs hA => by
        simp only [Bool.and_eq_true] at h
        obtain ⟨⟨⟨h1, h2⟩, h4⟩, h5⟩ := h
        have e := seq h1
        subst e
        exact gs_forH hs.po (hX.hotC hh) (glB_ok hX h2) (hX.free _ (by simpa using h4)) (ms.2 C T n op W X hX) h5 (mg.2 C T n op W X A hX fun i hi => hA i (List.mem_append_left _ hi)) (mb.2 C T n op W X A hX hs fun i hi => hA i (List.mem_append_right _ hi))⟩
    | _, _, _ => none
  | _ => none
def stFor (tg iter : Expr) (body : List Stmt) (pos : Pos) : Option (CS Γ (.For tg iter body [] pos)) := match hh : Γ.hot with
  | true => stForH L Γ tg body pos hh iter
  | false => match itN L Γ iter, L.g Γ tg, L.ss Γ body with
    | some mi, some mg, some mb => gd (notSet iter) fun h => some ⟨(fun c => forS (mi.1 c) mg.1.1 (mb.1.1 c), mg.1.2 ++ mb.1.2), fun C T n op W X A hX hs hA =>
        gs_for hs.po (hX.calm hh).2.1 (mi.2 C T n op W X hX tg) (mg.2 C T n op W X A hX fun i hi => hA i (List.mem_append_left _ hi)) (mb.2 C T n op W X A hX hs fun i hi => hA i (List.mem_append_right _ hi)) h⟩
    | _, _, _ => none
def stRaise (x : PySem.Str) (p pos pos2 : Pos) (e : Expr) (es : List Expr) : Option (CS Γ (.Raise (some (.Call (.Name x p) (e :: es) [] pos)) none pos2)) := match hh : Γ.hot with
  | true => none
  | false => match h3 : Γ.rais.lookup x, L.a Γ (e :: es) with
    | some ck, some ms => gd (glB Γ.scope x && plainN x && (e :: es).all notStar) fun h => some ⟨(fun c => raiseS ck.1 ck.2 (ms.1 c), []), fun C T n op W X A hX hs hA => by
        rw [Bool.and_eq_true, Bool.and_eq_true] at h
        obtain ⟨q1, q2, q3⟩ := hX.calm hh
        obtain ⟨r1, r2⟩ := hX.rais x ck.1 ck.2 (mem_lk h3)
        exact gs_raise hX.K q2 (q3.mono (by omega)) hX.tk r1 r2 (glB_ok hX h.1.1) (ms.2 C T n op W X hX) h.2 (plainN_ok h.1.2).1⟩
    | _, _ => none
def stTry (body : List Stmt) (x nm : PySem.Str) (np pos pos' : Pos) (b₀ : Stmt) (suite : List Stmt) : Option (CS Γ (.Try body [.ExceptHandler (some (.Name x np)) (some nm) (b₀ :: suite) pos'] [] [] pos)) := match hh : Γ.hot with
  | true => none
  | false => match findN Γ.N nm 0, h3 : Γ.clss.lookup x, L.ss Γ body, L.ss { Γ with hot := true } (b₀ :: suite) with
    | some i, some cls, some mb, some mh => gd (Γ.N[i]? == some nm && (Γ.scope.names.lookup nm == some .local) && glB Γ.scope x && plainN x) fun h => some ⟨(fun c => tryS mb.1.2 (mb.1.1 c) cls i (mh.1.1 c), i :: (mb.1.2 ++ mh.1.2)), fun C T n op W X A hX hs hA => by
        simp only [Bool.and_eq_true] at h
        obtain ⟨⟨⟨h1, h2⟩, h4⟩, h5⟩ := h
        obtain ⟨q1, q2, q3⟩ := hX.calm hh
        subst q1
        obtain ⟨r1, r2⟩ := hX.clss x cls (mem_lk h3)
        refine gs_try (n := nm) hX.kc hX.K hs.stack hs.frame hX.nd (by rw [hX.N]; exact eq_of_beq h1) ?_ (glB_ok hX h4) (plainN_ok h5).1 r1 r2 hX.tk (hA i (List.mem_cons_self ..)) (fun j hj => hA j (List.mem_cons_of_mem _ (List.mem_append_left _ (by simpa using hj))))
          (fun W' pn xe tk po => mb.2 C T n none W' _ _ (hX.tr hh tk) (hs.tr po) fun i hi => by simpa using hi) (fun a oe cl d pn hz hf => mh.2 C T n (some (a, oe)) W0 _ A (hX.suite hh hz hf) hs.suite fun i hi => hA i (List.mem_cons_of_mem _ (List.mem_append_right _ hi)))
        show X.env.scope.names.lookup nm = _
        rw [hX.sc]
        exact eq_of_beq h2⟩
    | _, _, _, _ => none
def stAsg (tg e : Expr) (pos : Pos) : Option (CS Γ (.Assign [tg] e pos)) := match L.g Γ tg, L.e Γ e with
  | some mg, some me => gd (notComp e && noPar tg e && notStar tg) fun h => some ⟨(fun c => setS mg.1.1 (me.1 c), mg.1.2), fun C T n op W X A hX hs hA => by
      rw [Bool.and_eq_true, Bool.and_eq_true] at h
      exact gs_set (me.2 C T n op W X hX) (mg.2 C T n op W X A hX hA) h.1.1 h.1.2 h.2⟩
  | _, _ => none
def stAsgC (y : PySem.Str) (py pos spos : Pos) (elt tg iter : Expr) (ifs : List Expr) (scope : Scope) : Option (CS Γ (.Assign [.Name y py] (.ListComp elt [⟨tg, iter, ifs, 0⟩] scope pos) spos)) :=
  match findN Γ.N y 0, stLc L Γ elt tg iter ifs scope with
  | some i, some P => gd (Γ.N[i]? == some y && Γ.st.contains y) fun h => some ⟨(fun c => setS (nameG i) (compE (P.own.map (·.2)) (P.i c) P.g (P.t c) (P.e c)), [i]), fun C T n op W X A hX hs hA => by
      rw [Bool.and_eq_true] at h
      obtain ⟨q1, q2⟩ := hX.st y (by simpa using h.2)
      exact gs_setC hX.kind (hX.calm P.hot).2.1 hX.nd (by rw [hX.N]; exact eq_of_beq h.1) q1 q2 (hA i (List.mem_cons_self ..)) (P.hi C T n op W X hX) (by rw [hX.N, hX.sc]; exact P.blk) (P.hg C T n op W X hX) (P.ht C T n op W X hX) (P.he C T n op W X hX) P.ns⟩
  | _, _ => none
def stSubA (o i e : Expr) (pos' pos : Pos) : Option (CS Γ (.Assign [.Subscript o i pos'] e pos)) := match L.e Γ o, L.e Γ i, L.e Γ e with
  | some mo, some mi, some me => gd (notComp e && plainIx i) fun h => some ⟨(fun c => subS (mo.1 c) (mi.1 c) (me.1 c), []), fun C T n op W X A hX hs hA => by
      rw [Bool.and_eq_true] at h
      exact gs_sub (me.2 C T n op W X hX) (mo.2 C T n op W X hX) (mi.2 C T n op W X hX) h.1 h.2⟩
  | _, _, _ => none
def stS : (s : Stmt) → Option (CS Γ s)
  | .Expr e pos => gd (notComp e) fun h => match L.e Γ e with
    | some me => some ⟨(fun c => exprS (me.1 c), []), fun C T n op W X A hX _ _ => gs_expr (me.2 C T n op W X hX) h⟩
    | none => none
  | .Return (some e) pos => match L.e Γ e with
    | some me => some ⟨(fun c => retS (me.1 c), []), fun C T n op W X A hX _ _ => gs_ret (me.2 C T n op W X hX)⟩
    | none => none
  | .Return none pos => some ⟨(fun _ => retS (cstE .non), []), fun C T n op W X A hX _ _ => gs_retN⟩
  | .If c p q pos => match L.t Γ c, L.ss Γ p, L.ss Γ q with
    | some mc, some mp, some mq => some ⟨(fun k => iteS (mc.1 k) (mp.1.1 k) (mq.1.1 k), mp.1.2 ++ mq.1.2), fun C T n op W X A hX hs hA => gs_if (mc.2 C T n op W X hX) (mp.2 C T n op W X A hX hs fun i hi => hA i (List.mem_append_left _ hi)) (mq.2 C T n op W X A hX hs fun i hi => hA i (List.mem_append_right _ hi))⟩
    | _, _, _ => none
  | .Pass pos => some ⟨(fun _ => skipS, []), fun C T n op W X A hX _ _ => gs_pass⟩
  | .Break pos => some ⟨(fun _ => brkS, []), fun C T n op W X A hX _ _ => gs_break⟩
  | .Continue pos => some ⟨(fun _ => cntS, []), fun C T n op W X A hX _ _ => gs_continue⟩
  | .Assign [.Subscript o i pos'] e pos => stSubA L Γ o i e pos' pos
  | .Assign [.Name y py] (.ListComp elt [⟨tg, iter, ifs, 0⟩] scope pos) spos => stAsgC L Γ y py pos spos elt tg iter ifs scope
  | .Assign [tg] e pos => stAsg L Γ tg e pos
  | .For tg iter body [] pos => stFor L Γ tg iter body pos
  | .While c body [] pos => match L.t Γ c, L.ss Γ body with
    | some mc, some mb => some ⟨(fun k => whileS (mc.1 k) (mb.1.1 k), mb.1.2), fun C T n op W X A hX hs hA => gs_while hs.po (mc.2 C T n op W X hX) (mb.2 C T n op W X A hX hs hA)⟩
    | _, _ => none
  | .Raise (some (.Call (.Name x p) (e :: es) [] pos)) none pos2 => stRaise L Γ x p pos pos2 e es
  | .Try body [.ExceptHandler (some (.Name x np)) (some nm) (b₀ :: suite) pos'] [] [] pos => stTry L Γ body x nm np pos pos' b₀ suite
  | _ => none
def stSs : (s : List Stmt) → Option (CSs Γ s)
  | [] => some ⟨(fun _ => skipS, []), fun C T n op W X A _ _ _ => gss_nil⟩
  | [s] => match L.s Γ s with
    | some m => some ⟨m.1, fun C T n op W X A hX hs hA => gss_one (m.2 C T n op W X A hX hs hA)⟩
    | none => none
  | s :: t :: r => match L.s Γ s, L.ss Γ (t :: r) with
    | some m, some ms => some ⟨(fun c => seqS (m.1.1 c) (ms.1.1 c), m.1.2 ++ ms.1.2), fun C T n op W X A hX hs hA => gss_cons (m.2 C T n op W X A hX hs fun i hi => hA i (List.mem_append_left _ hi)) (ms.2 C T n op W X A hX hs fun i hi => hA i (List.mem_append_right _ hi))⟩
    | _, _ => none
end
def lv : Nat → Lv
  | 0 => ⟨fun _ _ => none, fun _ _ => none, fun _ _ => none, fun _ _ => none, fun _ _ => none, fun _ _ => none, fun _ _ => none, fun _ _ => none⟩
  | n + 1 => ⟨stE (lv n), stT (lv n), stW (lv n), stA (lv n), stG (lv n), stGs (lv n), stS (lv n), stSs (lv n)⟩
/-- a def's body, compiled -/
def compB (n : Nat) (Γ : Gm) (body : List Stmt) : Option (CallT → SS) := match (lv n).ss Γ body with
  | some m => some m.1.1
  | none => none
theorem compB_ok {k : Nat} {Γ : Gm} {body : List Stmt} {c : CallT → SS} (h : compB k Γ body = some c) {C : Cf} {T : NB.Tab} {n : Nat} {op : Hot} {W : WX} {X : Cx} (hX : XOk Γ C T n op W X) (hs : XSt X) : PSs X body (tS C op W (fun _ => true) (c (callF T n))) := by
  unfold compB at h
  split at h
  · rename_i m e
    cases h
    exact m.2 C T n op W X _ hX hs fun _ _ => rfl
  · cases h
end NB
end

set_option Elab.async false
set_option linter.all false
set_option maxRecDepth 100000
set_option maxHeartbeats 4000000
/-! Snd17: a table of defs, each of which keeps its code's promise. -/
namespace NB
open PySem PySem.Spec L2
open PyProof.Rows hiding St

/-- one def: what the top has of it, its names by places, its code -/
structure Df where
  x : PySem.Str
  qual : PySem.Str
  params : Arguments
  body : List Stmt
  scope : Scope
  dv : List V
  ps : List PySem.Str
  N : List PySem.Str
  code : CallT → SS
  hot : Bool
/-- what is common to the defs of a program -/
structure Pg where
  defs : List Df
  free : List PySem.Str
  fns : List ((PySem.Str × Nat) × (Nat × List D))
  hfns : List ((PySem.Str × Nat) × (Nat × List D))
  clss : List (PySem.Str × Nat)
  rais : List (PySem.Str × (Nat × Nat))
  vals : List (PySem.Str × D)
  flds : List (PySem.Str × List (Nat × Nat))
def Pg.tab (G : Pg) : NB.Tab := fun f => match G.defs[f]? with
  | some d => some ⟨d.ps.length, d.N.length, d.code⟩
  | none => none
def stOf (sc : Scope) (N : List PySem.Str) : List PySem.Str := N.filter fun x => sc.names.lookup x == some .local || sc.names.lookup x == some .cell
def Pg.gm (G : Pg) (d : Df) (hot : Bool) : Gm := ⟨d.N, d.scope, stOf d.scope d.N, hot, G.free, G.fns, G.hfns, G.clss, G.rais, G.vals, G.flds⟩
/-- the text's check of a def -/
structure DfOk (G : Pg) (d : Df) : Prop where
  calm : compB 150 (G.gm d false) d.body = some d.code
  hot : d.hot = true → compB 150 (G.gm d true) d.body = some d.code
  sc : FnScope d.N d.ps d.scope
/-- the def stands behind the top -/
def Ent (C : Cf) (mg : PySem.Str → Option Value) (d : Df) (dfl : List D) : Prop :=
  ∃ (fa : Addr) (fd : FuncData) (ds : List Value) (dvs : List V), mg d.x = some (.ref fa) ∧ FunD C.K d.x d.qual d.params d.body d.scope d.dv [] fa fd ∧ Vals dvs ds ∧ Binds C.K fd d.ps ds ∧ ∀ op ρ H, RepVs C op ρ H dfl dvs
/-- the facts of the module -/
structure PgOk (G : Pg) (C : Cf) (P : Program) (w : World) (mg : PySem.Str → Option Value) (base : Heap) : Prop where
  ok : ∀ (i : Nat) (d : Df), G.defs[i]? = some d → DfOk G d
  fns : ∀ x k f dfl, ((x, k), (f, dfl)) ∈ G.fns → ∃ d, G.defs[f]? = some d ∧ d.x = x ∧ Ent C mg d dfl
  hfns : ∀ x k f dfl, ((x, k), (f, dfl)) ∈ G.hfns → ∃ d, G.defs[f]? = some d ∧ d.x = x ∧ d.hot = true ∧ Ent C mg d dfl
  free : ∀ x ∈ G.free, mg x = none
  vals : ∀ x d, (x, d) ∈ G.vals → GlobOk C mg x d
  clss : ∀ x c, (x, c) ∈ G.clss → mg x = some (.ref (C.cad c)) ∧ c < C.nc
  rais : ∀ x c k, (x, (c, k)) ∈ G.rais → RaiseOk C P w mg base x c ∧ (C.cfl c).length = k
  flds : ∀ x t, (x, t) ∈ G.flds → FldOk C x t
  kc : KC C
section
variable {G : Pg} {C : Cf} {P : Program} {w : World} {mg : PySem.Str → Option Value} {base : Heap}
theorem repvs_start {op : Hot} {ρ : List Addr} {H : Hp} : ∀ {ds : List D} {vs : List V}, RepVs C op ρ H ds vs → ∀ (k : Nat), EnvR C op ρ H (ds.map some ++ List.replicate k none) (vs.map some ++ List.replicate k none) := fun {ds vs} h k => by
  have hl := h.length
  refine ⟨by simp [hl], fun i d e => ?_⟩
  have hi : i < ds.length := by
    by_cases hi : i < ds.length
    · exact hi
    · rw [List.getElem?_append_right (by simpa using hi)] at e
      rw [List.getElem?_replicate] at e
      split at e <;> cases e
  rw [List.getElem?_append_left (by simpa using hi), List.getElem?_map] at e
  rw [List.getElem?_append_left (by rw [List.length_map, hl]; exact hi), List.getElem?_map]
  have key : ∀ {ds : List D} {vs : List V} (i : Nat) (d : D), RepVs C op ρ H ds vs → ds[i]? = some d → ∃ v, vs[i]? = some v ∧ RepV C op ρ H d v := by
    intro ds
    induction ds with
    | nil => intro vs i d _ e; simp at e
    | cons d0 ds ih =>
      intro vs i d r e
      cases vs with
      | nil => exact r.elim
      | cons v vs =>
        cases i with
        | zero =>
          have e' : d0 = d := by simpa using e
          subst e'
          exact ⟨v, rfl, r.1⟩
        | succ i => exact ih i d r.2 (by simpa using e)
  cases q : ds[i]? with
  | none => rw [q] at e; cases e
  | some d' =>
    rw [q] at e
    have e' : d' = d := by simpa using e
    subst e'
    obtain ⟨v, e2, r⟩ := key i d' h q
    exact ⟨v, by rw [e2] <;> rfl, r⟩
/-- the body's reading, from the def's promise -/
theorem body_at {d : Df} {f n : Nat} {op : Hot} {vs : List V} {H : Hp} {Q : VK} {E : XK} (hd : G.defs[f]? = some d) (hN : d.ps.length ≤ d.N.length) (h : spOf C G.tab (n + 1) f d.ps.length op vs H Q E) :
    tS C op (wOf E) (fun _ => true) (d.code (callF G.tab n)) { nx := fun _ H' => Q .non H', rt := Q } (L2.start d.N vs) H := by
  obtain ⟨hl, ρ, S, ds, r, h⟩ := h
  have hT : G.tab f = some ⟨d.ps.length, d.N.length, d.code⟩ := by
    unfold Pg.tab
    rw [hd]
  have h2 : At C (wOf E) [] ρ H S (bif decide (ds.length = d.ps.length) then NB.bnd (d.code (callF G.tab n) (startE d.ps.length d.N.length ds)) endF else err) fun d _ ρ' H' => ∀ v, RepD C.K ρ' H' d v → Q v H' := by
    have e : callF G.tab (n + 1) f ds = (bif decide (ds.length = d.ps.length) then NB.bnd (d.code (callF G.tab n) (startE d.ps.length d.N.length ds)) endF else err) := by
      show (match G.tab f with | some fn => _ | none => err) = _
      rw [hT]
    rw [← e]
    exact h
  obtain ⟨hz, h3⟩ := h2.chk
  have hz := of_decide_eq_true hz
  have e1 : L2.start d.N vs = vs.map some ++ List.replicate (d.N.length - d.ps.length) none := by
    unfold L2.start
    rw [hl]
  refine ⟨ρ, S, startE d.ps.length d.N.length ds, ?_, ?_⟩
  · rw [e1]
    exact repvs_start r _
  · have h4 := h3.bnd
    refine ⟨h4.1, wp_mono h4.2 (fun fl S' z ρ' H' l s => ?_) fun c fs S' z σ' _ => z⟩
    have z := z ρ' H' l s
    cases fl with
    | rt d => exact fun v rv => z.ret v rv
    | nx δ => exact fun σ' _ _ => z.ret .non .non
    | bk δ => exact z.err.elim
    | ct δ => exact z.err.elim
theorem stOf_ok {sc : Scope} {N : List PySem.Str} {x : PySem.Str} (h : x ∈ stOf sc N) : sc.names.lookup x = some .local ∨ sc.names.lookup x = some .cell := by
  have := (List.mem_filter.mp h).2
  simpa using this
theorem sp0 {f np : Nat} {op : Hot} {vs : List V} {H : Hp} {Q : VK} {E : XK} (h : spOf C G.tab 0 f np op vs H Q E) : False := by
  obtain ⟨_, ρ, S, ds, _, h⟩ := h
  exact h.err
theorem level_ok (g : PgOk G C P w mg base) : ∀ n : Nat, (∀ x k f dfl, ((x, k), (f, dfl)) ∈ G.fns → CalmOk C G.tab P w mg base n x f dfl) ∧ ∀ x k f dfl, ((x, k), (f, dfl)) ∈ G.hfns → HotOk C G.tab P w mg base n x f dfl
  | 0 => by
    refine ⟨fun x k f dfl hm => ?_, fun x k f dfl hm => ?_⟩
    · obtain ⟨d, hd, rfl, fa, fd, ds, dvs, hmg, hF, hv, hb, hr⟩ := g.fns x k f dfl hm
      exact ⟨fa, fd, d.ps, ds, dvs, hmg, hF.kp, ⟨fun vs H Q E h => h.1, fun A outer s H args us vs Q E _ _ _ _ h => (sp0 h).elim⟩, hv, hb, hr, _, by unfold Pg.tab; rw [hd], rfl⟩
    · obtain ⟨d, hd, rfl, _, fa, fd, ds, dvs, hmg, hF, hv, hb, hr⟩ := g.hfns x k f dfl hm
      exact ⟨fa, fd, d.ps, ds, dvs, hmg, hF.kp, ⟨fun op vs H Q E h => h.1, fun A outer s H args us vs Q E p _ _ _ _ _ _ h => (sp0 h).elim⟩, hv, hb, hr, _, by unfold Pg.tab; rw [hd], rfl⟩
  | n + 1 => by
    obtain ⟨ih1, ih2⟩ := level_ok g n
    refine ⟨fun x k f dfl hm => ?_, fun x k f dfl hm => ?_⟩
    · obtain ⟨d, hd, rfl, fa, fd, ds, dvs, hmg, hF, hv, hb, hr⟩ := g.fns x k f dfl hm
      have ok := g.ok f d hd
      have hN : d.ps.length ≤ d.N.length := by have := congrArg List.length ok.sc.pre; rw [List.length_take] at this; omega
      refine ⟨fa, fd, d.ps, ds, dvs, hmg, hF.kp, hF.ok ok.sc (fun vs H Q E h => h.1) (fun cdv A outer s H vs Q E hrm h => ⟨_, ?_, body_at hd hN h⟩), hv, hb, hr, _, by unfold Pg.tab; rw [hd], rfl⟩
      refine compB_ok ok.calm (C := C) (T := G.tab) (n := n) (op := none) (W := wOf E) ?_ ⟨rfl, rfl, L2.passes_of (K := fun e s'' => L2N.CX P w outer H s E e s'') (E₁ := fun e' s'' => L2N.CX P w outer H s E e' s'') rfl⟩
      exact ⟨rfl, rfl, ok.sc.nd, rfl, ok.sc.kind, fun y hy => ⟨stOf_ok hy, .inl rfl⟩, fun _ => ⟨rfl, rfl, hrm⟩, (fun z => by cases z), L2N.takes_of (X := cxOf (L2N.CX P w) P w C.K mg base d.N d.qual d.scope fa cdv A outer s H E) (E := E) (E₁ := fun e' s'' => L2N.CX P w outer H s E e' s'') rfl rfl rfl rfl, ih1, ih2, g.free, g.vals, g.clss, g.rais, g.flds, g.kc⟩
    · obtain ⟨d, hd, rfl, hhot, fa, fd, ds, dvs, hmg, hF, hv, hb, hr⟩ := g.hfns x k f dfl hm
      have ok := g.ok f d hd
      have hN : d.ps.length ≤ d.N.length := by have := congrArg List.length ok.sc.pre; rw [List.length_take] at this; omega
      refine ⟨fa, fd, d.ps, ds, dvs, hmg, hF.kp, fnX_of hF ok.sc (fun op vs H Q E h => h.1) (fun cdv A outer s H vs Q E p hot hrm h => ⟨_, ?_, body_at hd hN h⟩), hv, hb, hr, _, by unfold Pg.tab; rw [hd], rfl⟩
      refine compB_ok (ok.hot hhot) (C := C) (T := G.tab) (n := n) (op := some p) (W := wOf E) ?_ ⟨rfl, rfl, L2.passes_of (K := fun e s'' => L2N.CX P w outer H s E e s'') (E₁ := fun e' s'' => L2N.CX P w outer H s E e' s'') rfl⟩
      exact ⟨rfl, rfl, ok.sc.nd, rfl, ok.sc.kind, fun y hy => ⟨stOf_ok hy, .inl rfl⟩, (fun z => by cases z), fun _ => ⟨p, rfl, ⟨hot, List.mem_cons_self ..⟩, hrm⟩, L2N.takes_of (X := L2H.cxH (L2N.CX P w) P w C.K mg base d.N d.qual d.scope fa cdv A outer s H E p) (E := E) (E₁ := fun e' s'' => L2N.CX P w outer H s E e' s'') rfl rfl rfl rfl, ih1, ih2, g.free, g.vals, g.clss, g.rais, g.flds, g.kc⟩
theorem def_ok (g : PgOk G C P w mg base) (n : Nat) {f : Nat} {d : Df} (hd : G.defs[f]? = some d) {fa : Addr} {fd : FuncData} (hF : FunD C.K d.x d.qual d.params d.body d.scope d.dv [] fa fd) : FnOk P w C.K mg base (L2N.CX P w) (n + 3) fa fd d.ps (spOf C G.tab (n + 1) f d.ps.length none) := by
  obtain ⟨ih1, ih2⟩ := level_ok g n
  have ok := g.ok f d hd
  have hN : d.ps.length ≤ d.N.length := by have := congrArg List.length ok.sc.pre; rw [List.length_take] at this; omega
  refine hF.ok ok.sc (fun vs H Q E h => h.1) (fun cdv A outer s H vs Q E hrm h => ⟨_, ?_, body_at hd hN h⟩)
  refine compB_ok ok.calm (C := C) (T := G.tab) (n := n) (op := none) (W := wOf E) ?_ ⟨rfl, rfl, L2.passes_of (K := fun e s'' => L2N.CX P w outer H s E e s'') (E₁ := fun e' s'' => L2N.CX P w outer H s E e' s'') rfl⟩
  exact ⟨rfl, rfl, ok.sc.nd, rfl, ok.sc.kind, fun y hy => ⟨stOf_ok hy, .inl rfl⟩, fun _ => ⟨rfl, rfl, hrm⟩, (fun z => by cases z), L2N.takes_of (X := cxOf (L2N.CX P w) P w C.K mg base d.N d.qual d.scope fa cdv A outer s H E) (E := E) (E₁ := fun e' s'' => L2N.CX P w outer H s E e' s'') rfl rfl rfl rfl, ih1, ih2, g.free, g.vals, g.clss, g.rais, g.flds, g.kc⟩
end
end NB

set_option Elab.async false
set_option linter.all false
set_option maxRecDepth 100000
set_option maxHeartbeats 4000000
/-! Snd18: the module's facts, from what the head looks up. -/
namespace NB
open PySem PySem.Spec L2
open PyProof.Rows hiding St

/-- the error classes, their fields -/
abbrev Cls := List (PySem.Str × List PySem.Str)
def cfOf (cls : Cls) (K : PySem.W.Frag) : Cf := ⟨K, cls.length, fun i => He.ga K (cls.getD i ("", [])).1, fun i => (cls.getD i ("", [])).2⟩
/-! ### checks of the written part -/
def oexB (K : PySem.W.Frag) (C : Addr) : Bool := (match K.lookup C with
  | some ⟨.type "type", _, .cls cd, sl⟩ => (match cd.mro, sl.toList with
    | .ref C' :: bm, [_, _, _, _, some (.builtin n), _] => decide (C' = C) && (decide (n = "ValueError.__new__") && (!cd.hasDel && (cd.hasDict && PySem.HandSPX.refsVE bm)))
    | _, _ => false)
  | _ => false) && (decide (PySem.W.findIn K (.ref C) "__setattr__" = some (some (.builtin "object.__setattr__"))) && (decide (PySem.W.subIn K (.ref C) (.type "BaseException") = some true) && (decide (PySem.W.typeIn K (.ref C) = some (.type "type")) && PySem.W.keepIn K (.ref C))))
theorem oexB_ok {K : PySem.W.Frag} {C : Addr} (h : oexB K C = true) : OexC K C := by
  unfold oexB at h
  rw [Bool.and_eq_true, Bool.and_eq_true, Bool.and_eq_true, Bool.and_eq_true] at h
  obtain ⟨h1, h2, h3, h4, h5⟩ := h
  refine ⟨?_, of_decide_eq_true h2, of_decide_eq_true h3, of_decide_eq_true h4, h5⟩
  split at h1
  · rename_i dd cd sl ho
    split at h1
    · rename_i C' bm k0 k1 k2 k3 n k5 hm hs
      simp only [Bool.and_eq_true, decide_eq_true_eq, Bool.not_eq_true'] at h1
      obtain ⟨e1, e2, e3, e4, e5⟩ := h1
      subst e1 e2
      obtain ⟨nm, bs, mro, ns, qn, hd, sn, sub, ab, col, del⟩ := cd
      dsimp only at hm e3 e4
      subst hm e3 e4
      obtain ⟨l⟩ := sl
      dsimp only at hs
      subst hs
      exact ⟨nm, qn, ns, bs, bm, sn, sub, ab, col, dd, k0, k1, k2, k3, k5, ho, e5⟩
    · cases h1
  · cases h1
def excB (K : PySem.W.Frag) (D : Addr) : Bool := decide (PySem.W.findIn K (.ref D) "__getattribute__" = some (some (.builtin "BaseException.__getattribute__"))) && (decide (PySem.W.findIn K (.ref D) "__getattr__" = some none) && (decide (PySem.W.subIn K (.ref D) (.type "BaseException") = some true) &&
  (PySem.W.hasDictIn K D && (decide (PySem.W.findIn K (.ref D) "__class__" = some (some (.builtin "object.__class__"))) && (decide (PySem.W.specialIn K (.builtin "object.__class__") "__get__" = some (some (.builtin "getset_descriptor.__get__"))) && (decide (PySem.W.takesIn K (.builtin "object.__class__") = some true) && decide (PySem.W.mroIn K D (.type "object") = some true)))))))
theorem excB_ok {K : PySem.W.Frag} {D : Addr} (h : excB K D = true) : ExcC K D := by
  unfold excB at h
  simp only [Bool.and_eq_true, decide_eq_true_eq] at h
  obtain ⟨h1, h2, h3, h4, h5, h6, h7, h8⟩ := h
  exact ⟨h1, h2, h3, h4, h5, h6, h7, h8⟩
def ntys : List String := ["int", "bool", "str", "tuple", "list", "dict"]
def kcB (C : Cf) : Bool := (List.range C.nc).all fun c =>
  (tyNames.all fun T => decide (PySem.W.kitOne C.K (.type T) (.ref (C.cad c)) = some false)) && ((ntys.all fun T => decide (PySem.W.kitOne C.K (.ref (C.cad c)) (.type T) = some false)) && (decide (PySem.W.kitOne C.K (.ref (C.cad c)) (.type "ValueError") = some true) &&
    (((List.range C.nc).all fun c' => decide (PySem.W.kitOne C.K (.ref (C.cad c)) (.ref (C.cad c')) = some (subC c c')) && decide (PySem.W.exmOne C.K (.ref (C.cad c)) (.ref (C.cad c')) = some (subC c c'))) && excB C.K (C.cad c))))
theorem kcB_ok {C : Cf} (h : kcB C = true) : KC C := by
  have key : ∀ c, c < C.nc → _ := fun c hc => List.all_eq_true.mp h c (List.mem_range.mpr hc)
  refine ⟨fun T hT c hc => ?_, fun c hc T hT => ?_, fun c hc => ?_, fun c hc c' hc' => ?_, fun c hc => ?_, fun c hc c' hc' => ?_⟩
  all_goals
    have k := key c hc
    rw [Bool.and_eq_true, Bool.and_eq_true, Bool.and_eq_true, Bool.and_eq_true] at k
    obtain ⟨k1, k2, k3, k4, k5⟩ := k
  · exact of_decide_eq_true (List.all_eq_true.mp k1 T hT)
  · exact of_decide_eq_true (List.all_eq_true.mp k2 T hT)
  · exact of_decide_eq_true k3
  · have k6 := List.all_eq_true.mp k4 c' (List.mem_range.mpr hc')
    rw [Bool.and_eq_true] at k6
    exact of_decide_eq_true k6.1
  · exact excB_ok k5
  · have k6 := List.all_eq_true.mp k4 c' (List.mem_range.mpr hc')
    rw [Bool.and_eq_true] at k6
    exact of_decide_eq_true k6.2
/-- a class that is raised with its fields -/
def raiB (C : Cf) (c : Nat) : Bool := oexB C.K (C.cad c) && (decide (PySem.W.findIn C.K (.ref (C.cad c)) "__init__" = some (some (.ref (He.ma C.K (C.cad c) "__init__")))) && (decide (PySem.W.typeIn C.K (.ref (He.ma C.K (C.cad c) "__init__")) = some (.type "function")) && ((C.cfl c).all fun f => decide (PySem.W.findIn C.K (.ref (C.cad c)) f = some none))))
def fldB (C : Cf) (f : PySem.Str) (t : List (Nat × Nat)) : Bool := t.all fun p => ((C.cfl p.1)[p.2]? == some f) && decide (PySem.W.findIn C.K (.ref (C.cad p.1)) f = some none)
theorem fldB_ok {C : Cf} {f : PySem.Str} {t : List (Nat × Nat)} (h : fldB C f t = true) : FldOk C f t := fun c k e => by
  have := List.all_eq_true.mp h (c, k) (mem_lk e)
  rw [Bool.and_eq_true] at this
  exact ⟨eq_of_beq this.1, of_decide_eq_true this.2⟩
/-! ### the tables of a program -/
/-- an error class's __init__ -/
structure In where
  c : Nat
  x : PySem.Str
  fs : List PySem.Str
  qual : PySem.Str
  params : Arguments
  body : List Stmt
  scope : Scope
def Df.defD (d : Df) : He.DefD := ⟨(d.x, none), d.x, d.qual, d.params, d.body, d.scope, [], []⟩
def In.defD (d : In) : He.DefD := ⟨(d.x, some "__init__"), "__init__", d.qual, d.params, d.body, d.scope, [], []⟩
/-- the values of the module: ints, texts -/
inductive Vl where
  | int (x : PySem.Str) (i : Int)
  | str (x z : PySem.Str)
  | tup (x : PySem.Str) (is : List Int)
def Vl.fa : Vl → He.Fa
  | .int x i => .int x i
  | .str x z => .str x z
  | .tup x _ => .glo x
/-- what is looked at beside -/
def Vl.ex (K : PySem.W.Frag) : Vl → Bool
  | .tup x is => He.tupB K x (is.map He.Dv.int)
  | _ => true
def Vl.ent : Vl → PySem.Str × D
  | .int x i => (x, .int i)
  | .str x z => (x, .str z.cps.toList)
  | .tup x is => (x, .tup (is.map .int))
structure Tb where
  defs : List Df
  free : List PySem.Str
  cls : Cls
  ini : List In
  vls : List Vl
  flds : List (PySem.Str × List (Nat × Nat))
def ents : List Df → Nat → List ((PySem.Str × Nat) × (Nat × List D))
  | [], _ => []
  | d :: r, i => ((d.x, d.ps.length), (i, [])) :: ents r (i + 1)
def hents : List Df → Nat → List ((PySem.Str × Nat) × (Nat × List D))
  | [], _ => []
  | d :: r, i => bif d.hot then ((d.x, d.ps.length), (i, [])) :: hents r (i + 1) else hents r (i + 1)
def clsIx : Cls → Nat → List (PySem.Str × Nat)
  | [], _ => []
  | (x, _) :: r, i => (x, i) :: clsIx r (i + 1)
def Tb.pg (B : Tb) : Pg := ⟨B.defs, B.free, ents B.defs 0, hents B.defs 0, clsIx B.cls 0, B.ini.map fun i => (i.x, (i.c, i.fs.length)), B.vls.map Vl.ent, B.flds⟩
def Tb.fa (B : Tb) : List He.Fa := B.defs.map (fun d => .glo d.x) ++ (B.cls.map (fun c => .glo c.1) ++ (B.free.map (fun x => .free x) ++ B.vls.map Vl.fa))
def Tb.fn (B : Tb) : List He.DefD := B.defs.map Df.defD ++ B.ini.map In.defD
def Tb.ex (B : Tb) (K : PySem.W.Frag) : Bool := kcB (cfOf B.cls K) && ((B.ini.all fun i => raiB (cfOf B.cls K) i.c) && ((B.flds.all fun p => fldB (cfOf B.cls K) p.1 p.2) && B.vls.all fun v => v.ex K))
/-- the binding of a call with every parameter -/
def Bnd (name qual : PySem.Str) (params : Arguments) (body : List Stmt) (scope : Scope) (ps : List PySem.Str) : Prop := ∀ (kV doc pm : Value) (an : Option Addr) (cdv ct : Value) (us : List Value), us.length = ps.length → bindArgs (PySem.W.fnOf name qual params body scope .none kV doc pm an cdv ct) ⟨us, []⟩ = pure (ps.zip us)
/-- the text's checks -/
structure TbOk (B : Tb) : Prop where
  df : ∀ (i : Nat) (d : Df), B.defs[i]? = some d → DfOk B.pg d ∧ d.dv = [] ∧ Bnd d.x d.qual d.params d.body d.scope d.ps
  ini : ∀ i ∈ B.ini, B.cls[i.c]? = some (i.x, i.fs) ∧ i.fs ≠ [] ∧ i.fs.length ≤ 900 ∧ initB i.fs i.body = true ∧ FnScope (("self" : PySem.Str) :: i.fs) (("self" : PySem.Str) :: i.fs) i.scope ∧ (∀ x ∈ ("self" : PySem.Str) :: i.fs, (x == ("__debug__" : PySem.Str)) = false ∧ (x == ("__classdict__" : PySem.Str)) = false) ∧
    Bnd "__init__" i.qual i.params i.body i.scope (("self" : PySem.Str) :: i.fs)
  str : ∀ x z, Vl.str x z ∈ B.vls → z.length ≤ SZ
theorem ents_mem : ∀ {l : List Df} {i : Nat} {e : (PySem.Str × Nat) × (Nat × List D)}, e ∈ ents l i → ∃ d j, l[j]? = some d ∧ e = ((d.x, d.ps.length), (i + j, []))
  | d :: r, i, e, h => by
    rcases List.mem_cons.mp h with h | h
    · exact ⟨d, 0, rfl, h⟩
    · obtain ⟨d', j, e1, e2⟩ := ents_mem h
      exact ⟨d', j + 1, e1, by rw [e2, Nat.add_assoc, Nat.add_comm 1 j]⟩
theorem hents_mem : ∀ {l : List Df} {i : Nat} {e : (PySem.Str × Nat) × (Nat × List D)}, e ∈ hents l i → ∃ d j, l[j]? = some d ∧ d.hot = true ∧ e = ((d.x, d.ps.length), (i + j, []))
  | d :: r, i, e, h => by
    have rest : e ∈ hents r (i + 1) → ∃ d' j, (d :: r)[j]? = some d' ∧ d'.hot = true ∧ e = ((d'.x, d'.ps.length), (i + j, [])) := fun h => by
      obtain ⟨d', j, e1, e0, e2⟩ := hents_mem h
      exact ⟨d', j + 1, e1, e0, by rw [e2, Nat.add_assoc, Nat.add_comm 1 j]⟩
    unfold hents at h
    cases z : d.hot with
    | true =>
      rw [z] at h
      rcases List.mem_cons.mp h with h | h
      · exact ⟨d, 0, rfl, z, h⟩
      · exact rest h
    | false =>
      rw [z] at h
      exact rest h
theorem clsIx_mem : ∀ {l : Cls} {i : Nat} {x : PySem.Str} {c : Nat}, (x, c) ∈ clsIx l i → ∃ j fs, l[j]? = some (x, fs) ∧ c = i + j
  | (y, fs) :: r, i, x, c, h => by
    rcases List.mem_cons.mp h with h | h
    · cases h
      exact ⟨0, fs, rfl, rfl⟩
    · obtain ⟨j, fs', e1, e2⟩ := clsIx_mem h
      exact ⟨j + 1, fs', e1, by omega⟩
theorem tb_ok {B : Tb} (ok : TbOk B) {P : Program} {w : World} {h : Heap} {K : PySem.W.Frag} {mg : PySem.Str → Option Value} {base : Heap} (X : K.In h) (Gm : h.Ns mainGlobals mg) (c : He.SaysX B.fa B.fn [] [] B.ex w h K) : PgOk B.pg (cfOf B.cls K) P w mg base := by
  have hd := c.t.d
  have glo : ∀ x, He.Fa.glo x ∈ B.fa → mg x = some (.ref (He.ga K x)) := fun x hx => He.glo_ok X Gm (hd.facts hx)
  have gdef : ∀ (j : Nat) (d : Df), B.defs[j]? = some d → mg d.x = some (.ref (He.ga K d.x)) := fun j d e => glo _ (List.mem_append_left _ (List.mem_map.mpr ⟨d, List.mem_of_getElem? e, rfl⟩))
  have gcls : ∀ (j : Nat) (x : PySem.Str) (fs : List PySem.Str), B.cls[j]? = some (x, fs) → mg x = some (.ref ((cfOf B.cls K).cad j)) ∧ j < (cfOf B.cls K).nc ∧ (cfOf B.cls K).cfl j = fs ∧ (cfOf B.cls K).cad j = He.ga K x := fun j x fs e => by
    have e2 : B.cls.getD j ("", []) = (x, fs) := by rw [List.getD_eq_getElem?_getD, e] <;> rfl
    have e3 : (cfOf B.cls K).cad j = He.ga K x := by show He.ga K (B.cls.getD j ("", [])).1 = _; rw [e2]
    refine ⟨?_, (List.getElem?_eq_some_iff.mp e).1, by show (B.cls.getD j ("", [])).2 = _; rw [e2], e3⟩
    rw [e3]
    exact glo _ (List.mem_append_right _ (List.mem_append_left _ (List.mem_map.mpr ⟨(x, fs), List.mem_of_getElem? e, rfl⟩)))
  have hex := c.more
  unfold Tb.ex at hex
  rw [Bool.and_eq_true, Bool.and_eq_true, Bool.and_eq_true] at hex
  obtain ⟨x1, x2, x3, x4⟩ := hex
  have ent : ∀ (j : Nat) (d : Df), B.defs[j]? = some d → Ent (cfOf B.cls K) mg d [] := fun j d e => by
    obtain ⟨_, dv, bnd⟩ := ok.df j d e
    obtain ⟨fd, F⟩ := hd.defs (List.mem_append_left _ (List.mem_map.mpr ⟨d, List.mem_of_getElem? e, rfl⟩) : d.defD ∈ B.fn)
    have F' : FunD K d.x d.qual d.params d.body d.scope [] [] (He.ga K d.x) fd := F
    refine ⟨He.ga K d.x, fd, [], [], gdef j d e, ?_, .nil, F'.bindsN bnd, fun _ _ _ => trivial⟩
    rw [dv]
    exact F'
  refine ⟨fun i d e => (ok.df i d e).1, fun x k f dfl hm => ?_, fun x k f dfl hm => ?_, fun x hx => ?_, fun x d hm => ?_, fun x c hm => ?_, fun x c k hm => ?_, fun x t hm => ?_, kcB_ok x1⟩
  · obtain ⟨d, j, e1, e2⟩ := ents_mem hm
    cases e2
    exact ⟨d, by rw [Nat.zero_add]; exact e1, rfl, ent j d e1⟩
  · obtain ⟨d, j, e1, e0, e2⟩ := hents_mem hm
    cases e2
    exact ⟨d, by rw [Nat.zero_add]; exact e1, rfl, e0, ent j d e1⟩
  · exact He.free_ok X Gm (hd.facts (List.mem_append_right _ (List.mem_append_right _ (List.mem_append_left _ (List.mem_map.mpr ⟨x, hx, rfl⟩)))))
  · obtain ⟨v, hv, e⟩ := List.mem_map.mp hm
    have hf : v.fa ∈ B.fa := List.mem_append_right _ (List.mem_append_right _ (List.mem_append_right _ (List.mem_map.mpr ⟨v, hv, rfl⟩)))
    cases v with
    | int y i =>
      cases e
      obtain ⟨t, q⟩ := He.int_ok X Gm (hd.facts hf)
      exact ⟨.int i, _, q, ⟨t, rfl⟩, fun _ _ => .int i⟩
    | str y z =>
      cases e
      obtain ⟨t, q⟩ := He.str_ok X Gm (hd.facts hf)
      refine ⟨.str z, _, q, ⟨t, rfl⟩, fun ρ H => ?_⟩
      have r : RepD (cfOf B.cls K).K ρ H (.str z.cps.toList) (.str ⟨z.cps.toList.toArray⟩) := .str (ok.str _ z hv)
      rw [str_eta] at r
      exact r
    | tup y is =>
      cases e
      have hx : He.tupB K _ (is.map He.Dv.int) = true := List.all_eq_true.mp x4 _ hv
      refine ⟨.ref (He.ga K _), _, glo _ hf, rfl, fun ρ H => ?_⟩
      have key : ∀ is : List Int, RepL (cfOf B.cls K).K ρ H (is.map D.int) ((is.map He.Dv.int).map (He.Dv.v K)) := fun is => by
        induction is with
        | nil => exact .nil
        | cons i r ih => exact .cons (.int i) ih
      exact .tup (He.tupB_ok hx H) (key is)
  · obtain ⟨j, fs, e1, e2⟩ := clsIx_mem hm
    rw [Nat.zero_add] at e2
    subst e2
    obtain ⟨q1, q2, _, _⟩ := gcls _ x fs e1
    exact ⟨q1, q2⟩
  · obtain ⟨i, hi, e⟩ := List.mem_map.mp hm
    cases e
    obtain ⟨i1, i2, i3, i4, i5, i6, i7⟩ := ok.ini i hi
    obtain ⟨q1, q2, q3, q4⟩ := gcls i.c i.x i.fs i1
    have r := List.all_eq_true.mp x2 i hi
    unfold raiB at r
    rw [Bool.and_eq_true, Bool.and_eq_true, Bool.and_eq_true] at r
    obtain ⟨r1, r2, r3, r4⟩ := r
    obtain ⟨fd, F⟩ := hd.defs (List.mem_append_right _ (List.mem_map.mpr ⟨i, hi, rfl⟩) : i.defD ∈ B.fn)
    have F' : FunD K "__init__" i.qual i.params i.body i.scope [] [] (He.ma K ((cfOf B.cls K).cad i.c) "__init__") fd := by rw [q4]; exact F
    refine ⟨⟨He.ma K ((cfOf B.cls K).cad i.c) "__init__", fd, ("self" : PySem.Str) :: i.fs, q2, q1, oexB_ok r1, of_decide_eq_true r2, of_decide_eq_true r3, ?_, F'.bindsN i7, fun f hf => of_decide_eq_true (List.all_eq_true.mp r4 f hf), by rw [q3]; exact i3⟩, by rw [q3]⟩
    rw [q3]
    exact init_ok F' i5 i2 i6 i3 i4
  · exact fldB_ok (List.all_eq_true.mp x3 (x, t) hm)
end NB

set_option Elab.async false
set_option linter.all false
set_option maxRecDepth 100000
set_option maxHeartbeats 4000000
/-! Snd19: a law's end. -/
namespace NB
open PySem PySem.Spec L2
open PyProof.Rows hiding St

theorem repl_ints {K : PySem.W.Frag} {ρ : List Addr} {H : Hp} : ∀ ns : List Int, RepL K ρ H (ns.map D.int) (ns.map V.int)
  | [] => .nil
  | n :: ns => .cons (.int n) (repl_ints ns)
/-- the script's list as nobody writes it -/
theorem ksq_of {K : PySem.W.Frag} {H : Hp} {a : Addr} {xs : List V} (o : Only H) (h : SqL K H a xs) : KSq K H a xs := by
  rcases h with (h | ⟨u, h⟩) | h
  · rcases o a with z | ⟨u, ys, z⟩
    · rw [z] at h; cases h
    · rw [z] at h; cases h
  · exact .inl ⟨u, h⟩
  · exact .inr h
/-- the law's end: what its def computes at every script is True -/
theorem law_walk {l : PySem.W.OpenLaw} {n m f : Nat} {q : Program} {loose : List PySem.Str} {XP : (PySem.Str → Option Value) → Heap → Prop} {d : DefRec} {x : PySem.Str} {B : Tb} {df : Df} {YP : World → Heap → Prop}
    (hYP : ∀ w h, YP w h → ∃ K : PySem.W.Frag, K.In h ∧ He.SaysX B.fa B.fn [] [] B.ex w h K)
    (ok : TbOk B) (hn : l.most = some n) (hn2 : n ≤ sizeLine) (hdf : d.params.defaults = []) (hr : Room (m + 3) callerA) (hd : B.defs[f]? = some df) (hx : df.x = d.name) (hp : df.ps = [x])
    (hsp : ∀ ns : List Int, ns.length ≤ n → (∀ k ∈ ns, Builtin.Int.intBits k ≤ 1048576) → Wp (callF B.pg.tab (m + 1) f [.kl (ns.map .int)]) [] (fun d _ => d = .bl true) fun _ _ _ => False) :
    PySem.W.WalkO q loose XP YP l.row.toRowW d [] (fun f vs => PySem.call f vs) := by
  refine Att.attach_callB hn hdf fun w s₀ s₁ mg mb fa o pm cd doc a vs ns G Y ho hod hcd hmg hobj hints hlen hbits hg => ?_
  obtain ⟨K, KX, c⟩ := hYP _ _ Y
  have hmem : df.defD ∈ B.fn := List.mem_append_left _ (List.mem_map.mpr ⟨df, List.mem_of_getElem? hd, rfl⟩)
  obtain ⟨fd, F⟩ := c.t.d.defs hmem
  have F' : FunD K df.x df.qual df.params df.body df.scope [] [] (He.ga K df.x) fd := F
  obtain ⟨_, dv, bnd⟩ := ok.df f df hd
  have hm2 : mg df.x = some (.ref (He.ga K df.x)) := He.glo_ok KX G.T.g (c.t.d.facts (List.mem_append_left _ (List.mem_map.mpr ⟨df, List.mem_of_getElem? hd, rfl⟩)))
  have efa : fa = He.ga K df.x := by
    rw [← hx, hm2] at hmg
    cases hmg
    rfl
  have hent : ∀ base : Heap, K.In base → base.Ns mainGlobals mg → FnOk l.prog w K mg base (L2N.CX l.prog w) (m + 3) fa fd [x] (spOf (cfOf B.cls K) B.pg.tab (m + 1) f 1 none) := fun base hb hns => by
    have pg : PgOk B.pg (cfOf B.cls K) l.prog w mg base := tb_ok ok KX G.T.g c
    have hF : FunD (cfOf B.cls K).K df.x df.qual df.params df.body df.scope df.dv [] (He.ga K df.x) fd := by
      rw [dv]
      exact F'
    have r := def_ok pg m (show B.pg.defs[f]? = some df from hd) hF
    rw [hp] at r
    rw [efa]
    exact r
  refine law_call KX G.T.g G.T.b G.T.builtins G.T.nolimit hg hobj hints (Nat.le_trans hlen hn2) hr hent (fun s u => ?_) (fun H hO hS => ?_) fun H e s' hc => ?_
  · have b := FunD.bindsA (ps := df.ps) F' bnd s [u] (by rw [hp] <;> rfl)
    rw [hp] at b
    exact b
  · refine ⟨rfl, [], [], [.kl (ns.map .int)], ⟨.inl (.kl (ksq_of hO hS) (repl_ints ns)), trivial⟩, ⟨rfl, List.nodup_nil, fun n o a e => by simp at e⟩, ?_⟩
    exact wp_mono (hsp ns hlen hbits) (fun d S q ρ' H' _ _ v r => by subst q; exact rep_bl r) fun _ _ _ z => z.elim
  · obtain ⟨_, _, _, _, _, _, _, _, _, _, _, _, z⟩ := hc
    exact z
/-- each of a list -/
def AllP {α : Type} (P : α → Prop) : List α → Prop
  | [] => True
  | a :: r => P a ∧ AllP P r
theorem AllP.get {α : Type} {P : α → Prop} : ∀ {l : List α} {i : Nat} {a : α}, AllP P l → l[i]? = some a → P a
  | _ :: _, 0, _, h, e => by
    have e : _ = _ := Option.some.inj e
    exact e ▸ h.1
  | _ :: _, i + 1, _, h, e => AllP.get h.2 (by simpa using e)
theorem AllP.mem {α : Type} {P : α → Prop} : ∀ {l : List α} {a : α}, AllP P l → a ∈ l → P a
  | _ :: _, _, h, e => by
    rcases List.mem_cons.mp e with e | e
    · exact e ▸ h.1
    · exact AllP.mem h.2 e
end NB

set_option Elab.async false
set_option linter.all false
set_option maxRecDepth 100000
set_option maxHeartbeats 0
namespace NB
open PySem PySem.Spec L2
open PyProof.Rows hiding St
/-! ### the codes -/
def f_amount : List (Nat × Nat) := [(13, 0)]
def f_at : List (Nat × Nat) := [(8, 0)]
def f_beginning : List (Nat × Nat) := [(12, 0)]
def f_due : List (Nat × Nat) := [(4, 1)]
def f_found : List (Nat × Nat) := [(3, 0), (4, 0), (5, 0), (7, 0)]
def f_high : List (Nat × Nat) := [(3, 2)]
def f_line : List (Nat × Nat) := [(6, 0)]
def f_low : List (Nat × Nat) := [(3, 1)]
def f_name : List (Nat × Nat) := [(16, 0), (17, 0), (18, 0), (19, 0)]
def f_user : List (Nat × Nat) := [(19, 1)]
abbrev i_check_count : Nat := 0
abbrev i_has_only : Nat := 1
abbrev i_check_text : Nat := 2
abbrev i_check_order : Nat := 3
abbrev i_most_rounds : Nat := 4
abbrev i_letters : Nat := 5
abbrev i_renamed : Nat := 6
abbrev i_back_order : Nat := 7
abbrev i_store : Nat := 8
abbrev i_mixed : Nat := 9
abbrev i_take : Nat := 10
abbrev i_edge : Nat := 11
abbrev i_shuffled : Nat := 12
abbrev i_same : Nat := 13
abbrev i_refusal : Nat := 14
abbrev i_bare : Nat := 15
abbrev i_most : Nat := 16
abbrev i_row : Nat := 17
abbrev i_bad_text : Nat := 18
abbrev i_free : Nat := 19
abbrev i_order : Nat := 20
abbrev i_bad_order : Nat := 21
abbrev i_renamed_by : Nat := 22
abbrev i_back_of : Nat := 23
abbrev i_is_order : Nat := 24
abbrev i_is_renamed : Nat := 25
abbrev i_undone : Nat := 26
abbrev i_order_judged : Nat := 27
abbrev i_joint : Nat := 28
abbrev i_law : Nat := 29
def c_check_count_1 (c : CallT) : SS := (raiseS 3 3 (consA (varE 0) (consA (varE 1) (consA (varE 2) nilA))))
def c_check_count_0 (c : CallT) : SS := (iteS (orT (valT (op1E (isiD [.bool]) (varE 0))) (orT (valT (op2E ltD (varE 0) (varE 1))) (valT (op2E gtD (varE 0) (varE 2))))) (c_check_count_1 c) skipS)
/-- 0: check_count -/
def c_check_count (c : CallT) : SS := (c_check_count_0 c)
def c_has_only_2 (c : CallT) : SS := (retS (cstE (.bl false)))
def c_has_only_1 (c : CallT) : SS := (iteS (valT (op2E ninD (varE 2) (varE 1))) (c_has_only_2 c) skipS)
def c_has_only_0 (c : CallT) : SS := (forS (seqI (varE 0)) (nameG 2) (c_has_only_1 c))
def c_has_only_3 (c : CallT) : SS := (retS (cstE (.bl true)))
/-- 1: has_only -/
def c_has_only (c : CallT) : SS := (seqS (c_has_only_0 c) (c_has_only_3 c))
def c_check_text_1 (c : CallT) : SS := (raiseS 7 1 (consA (varE 0) nilA))
def c_check_text_0 (c : CallT) : SS := (iteS (orT (valT (op2E gtD (opnE (one lenD) (consA (varE 0) nilA)) (varE 2))) (notT (valT (callE c i_has_only [] (consA (varE 0) (consA (callE c i_letters [] (consA (varE 1) nilA)) nilA)))))) (c_check_text_1 c) skipS)
/-- 2: check_text -/
def c_check_text (c : CallT) : SS := (c_check_text_0 c)
def c_check_order_1 (c : CallT) : SS := (raiseS 7 1 (consA (varE 0) nilA))
def c_check_order_0 (c : CallT) : SS := (iteS (orT (valT (op2E ltD (opnE (one lenD) (consA (varE 0) nilA)) (cstE (.int 1)))) (valT (op2E gtD (opnE (one lenD) (consA (varE 0) nilA)) (cstE (.int 5))))) (c_check_order_1 c) skipS)
def c_check_order_4 (c : CallT) : SS := (raiseS 7 1 (consA (varE 0) nilA))
def c_check_order_3 (c : CallT) : SS := (iteS (valT (op2E ninD (varE 1) (varE 0))) (c_check_order_4 c) skipS)
def c_check_order_2 (c : CallT) : SS := (forS (seqI (sliceE (cstE (.str [48, 49, 50, 51, 52])) none (some (opnE (one lenD) (consA (varE 0) nilA))))) (nameG 1) (c_check_order_3 c))
/-- 3: check_order -/
def c_check_order (c : CallT) : SS := (seqS (c_check_order_0 c) (c_check_order_2 c))
def c_most_rounds_0 (c : CallT) : SS := (exprS (callE c i_check_count [] (consA (varE 0) (consA (cstE (.int 1)) (consA (cstE (.int 5)) nilA)))))
def c_most_rounds_1 (c : CallT) : SS := (retS (op2E subsD (cstE (.tup [.int 8, .int 8, .int 5, .int 4, .int 3])) (op2E subD (varE 0) (cstE (.int 1)))))
/-- 4: most_rounds -/
def c_most_rounds (c : CallT) : SS := (seqS (c_most_rounds_0 c) (c_most_rounds_1 c))
def c_letters_0 (c : CallT) : SS := (exprS (callE c i_check_count [] (consA (varE 0) (consA (cstE (.int 1)) (consA (cstE (.int 5)) nilA)))))
def c_letters_1 (c : CallT) : SS := (retS (sliceE (cstE (.str [48, 49, 50, 51, 52])) none (some (varE 0))))
/-- 5: letters -/
def c_letters (c : CallT) : SS := (seqS (c_letters_0 c) (c_letters_1 c))
def c_renamed_0 (c : CallT) : SS := (exprS (callE c i_check_order [] (consA (varE 0) nilA)))
def c_renamed_1 (c : CallT) : SS := (exprS (callE c i_check_text [] (consA (varE 1) (consA (opnE (one lenD) (consA (varE 0) nilA)) (consA (callE c i_most_rounds [] (consA (opnE (one lenD) (consA (varE 0) nilA)) nilA)) nilA)))))
def c_renamed_2 (c : CallT) : SS := (retS (methE strK (m1 joinD) (cstE (.str [])) (consA (compE [2] (seqI (varE 1)) (nameG 2) yesT (op2E subsD (varE 0) (methE strK (m1 indexD) (cstE (.str [48, 49, 50, 51, 52])) (consA (varE 2) nilA)))) nilA)))
/-- 6: renamed -/
def c_renamed (c : CallT) : SS := (seqS (c_renamed_0 c) (seqS (c_renamed_1 c) (c_renamed_2 c)))
def c_back_order_0 (c : CallT) : SS := (exprS (callE c i_check_order [] (consA (varE 0) nilA)))
def c_back_order_1 (c : CallT) : SS := (retS (methE strK (m1 joinD) (cstE (.str [])) (consA (compE [1] (seqI (sliceE (cstE (.str [48, 49, 50, 51, 52])) none (some (opnE (one lenD) (consA (varE 0) nilA))))) (nameG 1) yesT (op2E subsD (cstE (.str [48, 49, 50, 51, 52])) (methE strK (m1 indexD) (varE 0) (consA (varE 1) nilA)))) nilA)))
/-- 7: back_order -/
def c_back_order (c : CallT) : SS := (seqS (c_back_order_0 c) (c_back_order_1 c))
def c_store_0 (c : CallT) : SS := (retS (op2E addD (opnE newL (consA (cstE (.int 5)) (consA (cstE (.int 0)) (consA (op2E addD (cstE (.int 1)) (opnE (one lenD) (consA (varE 0) nilA))) (consA (cstE (.int 0)) (consA (cstE (.int 0)) nilA)))))) (compE [1] (seqI (varE 0)) (nameG 1) yesT (opnE (one intD) (consA (varE 1) nilA)))))
/-- 8: _law_store -/
def c_store (c : CallT) : SS := (c_store_0 c)
def c_mixed_0 (c : CallT) : SS := (setS (nameG 1) (cstE (.int 2305843009213693951)))
def c_mixed_1 (c : CallT) : SS := (subS (varE 0) (cstE (.int 3)) (op2E addD (op2E subsD (varE 0) (cstE (.int 3))) (cstE (.int 1))))
def c_mixed_2 (c : CallT) : SS := (subS (varE 0) (cstE (.int 2)) (op2E modD (opnE (one intD) (consA (op2E addD (op2E addD (op2E mulD (op2E subsD (varE 0) (cstE (.int 2))) (cstE (.int 68718952447))) (op2E mulD (op2E subsD (varE 0) (cstE (.int 3))) (cstE (.int 1000003)))) (cstE (.int 97))) nilA)) (varE 1)))
def c_mixed_3 (c : CallT) : SS := (setS (nameG 2) (op2E modD (opnE (one intD) (consA (op2E addD (op2E mulD (op2E subsD (varE 0) (cstE (.int 2))) (op2E subsD (varE 0) (cstE (.int 2)))) (op2E mulD (op2E subsD (varE 0) (cstE (.int 3))) (cstE (.int 1048583)))) nilA)) (cstE (.int 2305843009213693921))))
def c_mixed_4 (c : CallT) : SS := (retS (op2E modD (opnE (one intD) (consA (op2E addD (op2E addD (op2E mulD (varE 2) (cstE (.int 6700417))) (op2E fdivD (varE 2) (cstE (.int 30103)))) (cstE (.int 7))) nilA)) (varE 1)))
/-- 9: _law_mixed -/
def c_mixed (c : CallT) : SS := (seqS (c_mixed_0 c) (seqS (c_mixed_1 c) (seqS (c_mixed_2 c) (seqS (c_mixed_3 c) (c_mixed_4 c)))))
def c_take_1 (c : CallT) : SS := (retS (cstE (.int 0)))
def c_take_0 (c : CallT) : SS := (iteS (valT (op2E ltD (varE 1) (cstE (.int 2)))) (c_take_1 c) skipS)
def c_take_3 (c : CallT) : SS := (setS (nameG 2) (opnE (one intD) (consA (op2E subsD (varE 0) (op2E subsD (varE 0) (cstE (.int 0)))) nilA)))
def c_take_4 (c : CallT) : SS := (subS (varE 0) (cstE (.int 0)) (op2E addD (op2E subsD (varE 0) (cstE (.int 0))) (cstE (.int 1))))
def c_take_5 (c : CallT) : SS := (subS (varE 0) (cstE (.int 2)) (op2E modD (opnE (one intD) (consA (op2E addD (op2E addD (op2E subsD (varE 0) (cstE (.int 2))) (op2E mulD (varE 2) (cstE (.int 5)))) (cstE (.int 1))) nilA)) (cstE (.int 2305843009213693951))))
def c_take_7 (c : CallT) : SS := (subS (varE 0) (cstE (.int 1)) (opnE (one absD) (consA (varE 2) nilA)))
def c_take_8 (c : CallT) : SS := (subS (varE 0) (cstE (.int 4)) (cstE (.int 2)))
def c_take_6 (c : CallT) : SS := (iteS (orT (valT (op2E geD (varE 2) (op2E powD (cstE (.int 10)) (cstE (.int 18))))) (valT (op2E leD (varE 2) (op2E subD (cstE (.int 0)) (op2E powD (cstE (.int 10)) (cstE (.int 18))))))) (c_take_7 c) (c_take_8 c))
def c_take_2 (c : CallT) : SS := (iteS (andT (valT (op2E eqD (op2E subsD (varE 0) (cstE (.int 1))) (cstE (.int 0)))) (andT (valT (op2E eqD (op2E subsD (varE 0) (cstE (.int 4))) (cstE (.int 0)))) (valT (op2E ltD (op2E subsD (varE 0) (cstE (.int 0))) (opnE (one lenD) (consA (varE 0) nilA)))))) (seqS (c_take_3 c) (seqS (c_take_4 c) (seqS (c_take_5 c) (c_take_6 c)))) skipS)
def c_take_10 (c : CallT) : SS := (setS (nameG 3) (op2E modD (opnE (one intD) (consA (op2E subsD (varE 0) (cstE (.int 1))) nilA)) (varE 1)))
def c_take_11 (c : CallT) : SS := (subS (varE 0) (cstE (.int 1)) (op2E fdivD (op2E subsD (varE 0) (cstE (.int 1))) (varE 1)))
def c_take_12 (c : CallT) : SS := (retS (varE 3))
def c_take_9 (c : CallT) : SS := (iteS (valT (op2E gtD (op2E subsD (varE 0) (cstE (.int 1))) (cstE (.int 0)))) (seqS (c_take_10 c) (seqS (c_take_11 c) (c_take_12 c))) skipS)
def c_take_14 (c : CallT) : SS := (subS (varE 0) (cstE (.int 4)) (op2E subD (op2E subsD (varE 0) (cstE (.int 4))) (cstE (.int 1))))
def c_take_13 (c : CallT) : SS := (iteS (valT (op2E gtD (op2E subsD (varE 0) (cstE (.int 4))) (cstE (.int 0)))) (c_take_14 c) skipS)
def c_take_15 (c : CallT) : SS := (retS (op2E modD (opnE (one intD) (consA (callE c i_mixed [] (consA (varE 0) nilA)) nilA)) (varE 1)))
/-- 10: _law_take -/
def c_take (c : CallT) : SS := (seqS (c_take_0 c) (seqS (c_take_2 c) (seqS (c_take_9 c) (seqS (c_take_13 c) (c_take_15 c)))))
def c_edge_1 (c : CallT) : SS := (retS (cstE (.int 0)))
def c_edge_0 (c : CallT) : SS := (iteS (valT (op2E ltD (varE 1) (cstE (.int 2)))) (c_edge_1 c) skipS)
def c_edge_2 (c : CallT) : SS := (setS (nameG 2) (callE c i_take [] (consA (varE 0) (consA (cstE (.int 6)) nilA))))
def c_edge_4 (c : CallT) : SS := (retS (cstE (.int 0)))
def c_edge_3 (c : CallT) : SS := (iteS (valT (op2E eqD (varE 2) (cstE (.int 0)))) (c_edge_4 c) skipS)
def c_edge_6 (c : CallT) : SS := (retS (op2E subD (varE 1) (cstE (.int 1))))
def c_edge_5 (c : CallT) : SS := (iteS (valT (op2E eqD (varE 2) (cstE (.int 1)))) (c_edge_6 c) skipS)
def c_edge_7 (c : CallT) : SS := (retS (callE c i_take [] (consA (varE 0) (consA (varE 1) nilA))))
/-- 11: _law_edge -/
def c_edge (c : CallT) : SS := (seqS (c_edge_0 c) (seqS (c_edge_2 c) (seqS (c_edge_3 c) (seqS (c_edge_5 c) (c_edge_7 c)))))
def c_shuffled_0 (c : CallT) : SS := (setS (nameG 2) (opnE (one listD) (consA (varE 1) nilA)))
def c_shuffled_1 (c : CallT) : SS := (setS (nameG 3) (opnE newL nilA))
def c_shuffled_3 (c : CallT) : SS := (exprS (methE lstK (m1 appendD) (varE 3) (consA (methE lstK (m1 popAtD) (varE 2) (consA (callE c i_take [] (consA (varE 0) (consA (opnE (one lenD) (consA (varE 2) nilA)) nilA))) nilA)) nilA)))
def c_shuffled_2 (c : CallT) : SS := (forS (rangeI1 (consA (opnE (one lenD) (consA (varE 1) nilA)) nilA)) (nameG 4) (c_shuffled_3 c))
def c_shuffled_4 (c : CallT) : SS := (retS (varE 3))
/-- 12: _law_shuffled -/
def c_shuffled (c : CallT) : SS := (seqS (c_shuffled_0 c) (seqS (c_shuffled_1 c) (seqS (c_shuffled_2 c) (c_shuffled_4 c))))
def c_same_1 (c : CallT) : SS := (retS (op2E isD (varE 0) (cstE .non)))
def c_same_0 (c : CallT) : SS := (iteS (valT (op2E isD (varE 1) (cstE .non))) (c_same_1 c) skipS)
def c_same_3 (c : CallT) : SS := (retS (andE (op1E (isiD [.bool]) (varE 0)) (op2E eqD (varE 0) (varE 1))))
def c_same_2 (c : CallT) : SS := (iteS (valT (op1E (isiD [.bool]) (varE 1))) (c_same_3 c) skipS)
def c_same_5 (c : CallT) : SS := (retS (andE (op1E (isiD [.int]) (varE 0)) (andE (notE (op1E (isiD [.bool]) (varE 0))) (op2E eqD (varE 0) (varE 1)))))
def c_same_4 (c : CallT) : SS := (iteS (valT (op1E (isiD [.int]) (varE 1))) (c_same_5 c) skipS)
def c_same_7 (c : CallT) : SS := (retS (andE (op1E (isiD [.str]) (varE 0)) (op2E eqD (varE 0) (varE 1))))
def c_same_6 (c : CallT) : SS := (iteS (valT (op1E (isiD [.str]) (varE 1))) (c_same_7 c) skipS)
def c_same_10 (c : CallT) : SS := (retS (cstE (.bl false)))
def c_same_9 (c : CallT) : SS := (iteS (notT (valT (op1E (isiD [.tuple]) (varE 0)))) (c_same_10 c) skipS)
def c_same_12 (c : CallT) : SS := (retS (cstE (.bl false)))
def c_same_11 (c : CallT) : SS := (iteS (notT (valT (op1E (isiD [.list]) (varE 0)))) (c_same_12 c) skipS)
def c_same_8 (c : CallT) : SS := (iteS (valT (op1E (isiD [.tuple]) (varE 1))) (c_same_9 c) (c_same_11 c))
def c_same_14 (c : CallT) : SS := (retS (cstE (.bl false)))
def c_same_13 (c : CallT) : SS := (iteS (valT (op2E neD (opnE (one lenD) (consA (varE 0) nilA)) (opnE (one lenD) (consA (varE 1) nilA)))) (c_same_14 c) skipS)
def c_same_17 (c : CallT) : SS := (retS (cstE (.bl false)))
def c_same_16 (c : CallT) : SS := (iteS (notT (valT (callE c i_same [] (consA (op2E subsD (varE 0) (varE 2)) (consA (op2E subsD (varE 1) (varE 2)) nilA))))) (c_same_17 c) skipS)
def c_same_15 (c : CallT) : SS := (forS (rangeI1 (consA (opnE (one lenD) (consA (varE 1) nilA)) nilA)) (nameG 2) (c_same_16 c))
def c_same_18 (c : CallT) : SS := (retS (cstE (.bl true)))
/-- 13: _law_same -/
def c_same (c : CallT) : SS := (seqS (c_same_0 c) (seqS (c_same_2 c) (seqS (c_same_4 c) (seqS (c_same_6 c) (seqS (c_same_8 c) (seqS (c_same_13 c) (seqS (c_same_15 c) (c_same_18 c))))))))
def c_refusal_0 (c : CallT) : SS := (setS (nameG 1) (callE c i_bare [] (consA (varE 0) nilA)))
def c_refusal_2 (c : CallT) : SS := (exprS (methE lstK (m1 appendD) (varE 1) (consA (opnE mkTup (consA (cstE (.str [66, 97, 100, 67, 111, 117, 110, 116])) (consA (op1E (xfldD f_found) (varE 0)) (consA (op1E (xfldD f_low) (varE 0)) (consA (op1E (xfldD f_high) (varE 0)) nilA))))) nilA)))
def c_refusal_1 (c : CallT) : SS := (iteS (valT (op1E (isiD [.cls 3]) (varE 0))) (c_refusal_2 c) skipS)
def c_refusal_4 (c : CallT) : SS := (exprS (methE lstK (m1 appendD) (varE 1) (consA (opnE mkTup (consA (cstE (.str [66, 97, 100, 83, 105, 122, 101])) (consA (op1E (xfldD f_found) (varE 0)) (consA (op1E (xfldD f_due) (varE 0)) nilA)))) nilA)))
def c_refusal_3 (c : CallT) : SS := (iteS (valT (op1E (isiD [.cls 4]) (varE 0))) (c_refusal_4 c) skipS)
def c_refusal_6 (c : CallT) : SS := (exprS (methE lstK (m1 appendD) (varE 1) (consA (opnE mkTup (consA (cstE (.str [66, 97, 100, 78, 97, 109, 101])) (consA (op1E (xfldD f_found) (varE 0)) nilA))) nilA)))
def c_refusal_5 (c : CallT) : SS := (iteS (valT (op1E (isiD [.cls 5]) (varE 0))) (c_refusal_6 c) skipS)
def c_refusal_8 (c : CallT) : SS := (exprS (methE lstK (m1 appendD) (varE 1) (consA (opnE mkTup (consA (cstE (.str [66, 97, 100, 84, 101, 120, 116])) (consA (op1E (xfldD f_line) (varE 0)) nilA))) nilA)))
def c_refusal_7 (c : CallT) : SS := (iteS (valT (op1E (isiD [.cls 6]) (varE 0))) (c_refusal_8 c) skipS)
def c_refusal_10 (c : CallT) : SS := (exprS (methE lstK (m1 appendD) (varE 1) (consA (opnE mkTup (consA (cstE (.str [66, 97, 100, 82, 111, 119])) (consA (op1E (xfldD f_found) (varE 0)) nilA))) nilA)))
def c_refusal_9 (c : CallT) : SS := (iteS (valT (op1E (isiD [.cls 7]) (varE 0))) (c_refusal_10 c) skipS)
def c_refusal_12 (c : CallT) : SS := (exprS (methE lstK (m1 appendD) (varE 1) (consA (opnE mkTup (consA (cstE (.str [66, 97, 100, 83, 104, 97, 114, 101])) (consA (op1E (xfldD f_at) (varE 0)) nilA))) nilA)))
def c_refusal_11 (c : CallT) : SS := (iteS (valT (op1E (isiD [.cls 8]) (varE 0))) (c_refusal_12 c) skipS)
def c_refusal_14 (c : CallT) : SS := (exprS (methE lstK (m1 appendD) (varE 1) (consA (opnE mkTup (consA (cstE (.str [78, 111, 116, 69, 120, 97, 99, 116])) (consA (op1E (xfldD f_beginning) (varE 0)) nilA))) nilA)))
def c_refusal_13 (c : CallT) : SS := (iteS (valT (op1E (isiD [.cls 12]) (varE 0))) (c_refusal_14 c) skipS)
def c_refusal_16 (c : CallT) : SS := (exprS (methE lstK (m1 appendD) (varE 1) (consA (opnE mkTup (consA (cstE (.str [76, 97, 99, 107, 105, 110, 103])) (consA (op1E (xfldD f_amount) (varE 0)) nilA))) nilA)))
def c_refusal_15 (c : CallT) : SS := (iteS (valT (op1E (isiD [.cls 13]) (varE 0))) (c_refusal_16 c) skipS)
def c_refusal_18 (c : CallT) : SS := (exprS (methE lstK (m1 appendD) (varE 1) (consA (opnE mkTup (consA (cstE (.str [85, 110, 107, 110, 111, 119, 110, 78, 97, 109, 101])) (consA (op1E (xfldD f_name) (varE 0)) nilA))) nilA)))
def c_refusal_17 (c : CallT) : SS := (iteS (valT (op1E (isiD [.cls 16]) (varE 0))) (c_refusal_18 c) skipS)
def c_refusal_20 (c : CallT) : SS := (exprS (methE lstK (m1 appendD) (varE 1) (consA (opnE mkTup (consA (cstE (.str [84, 97, 107, 101, 110, 78, 97, 109, 101])) (consA (op1E (xfldD f_name) (varE 0)) nilA))) nilA)))
def c_refusal_19 (c : CallT) : SS := (iteS (valT (op1E (isiD [.cls 17]) (varE 0))) (c_refusal_20 c) skipS)
def c_refusal_22 (c : CallT) : SS := (exprS (methE lstK (m1 appendD) (varE 1) (consA (opnE mkTup (consA (cstE (.str [87, 114, 111, 110, 103, 75, 105, 110, 100])) (consA (op1E (xfldD f_name) (varE 0)) nilA))) nilA)))
def c_refusal_21 (c : CallT) : SS := (iteS (valT (op1E (isiD [.cls 18]) (varE 0))) (c_refusal_22 c) skipS)
def c_refusal_24 (c : CallT) : SS := (exprS (methE lstK (m1 appendD) (varE 1) (consA (opnE mkTup (consA (cstE (.str [73, 110, 85, 115, 101])) (consA (op1E (xfldD f_name) (varE 0)) (consA (op1E (xfldD f_user) (varE 0)) nilA)))) nilA)))
def c_refusal_23 (c : CallT) : SS := (iteS (valT (op1E (isiD [.cls 19]) (varE 0))) (c_refusal_24 c) skipS)
def c_refusal_26 (c : CallT) : SS := (retS (opnE mkTup (consA (cstE (.str [117, 110, 108, 105, 107, 101])) (consA (opnE (one lenD) (consA (varE 1) nilA)) nilA))))
def c_refusal_25 (c : CallT) : SS := (iteS (orT (valT (op2E neD (opnE (one lenD) (consA (varE 1) nilA)) (cstE (.int 1)))) (notT (valT (op1E (isiD [.verr]) (varE 0))))) (c_refusal_26 c) skipS)
def c_refusal_27 (c : CallT) : SS := (retS (op2E subsD (varE 1) (cstE (.int 0))))
/-- 14: _law_refusal -/
def c_refusal (c : CallT) : SS := (seqS (c_refusal_0 c) (seqS (c_refusal_1 c) (seqS (c_refusal_3 c) (seqS (c_refusal_5 c) (seqS (c_refusal_7 c) (seqS (c_refusal_9 c) (seqS (c_refusal_11 c) (seqS (c_refusal_13 c) (seqS (c_refusal_15 c) (seqS (c_refusal_17 c) (seqS (c_refusal_19 c) (seqS (c_refusal_21 c) (seqS (c_refusal_23 c) (seqS (c_refusal_25 c) (c_refusal_27 c)))))))))))))))
def c_bare_0 (c : CallT) : SS := (setS (nameG 1) (opnE newL nilA))
def c_bare_2 (c : CallT) : SS := (exprS (methE lstK (m1 appendD) (varE 1) (consA (opnE mkTup (consA (cstE (.str [66, 97, 100, 78, 117, 109, 98, 101, 114])) nilA)) nilA)))
def c_bare_1 (c : CallT) : SS := (iteS (valT (op1E (isiD [.cls 1]) (varE 0))) (c_bare_2 c) skipS)
def c_bare_4 (c : CallT) : SS := (exprS (methE lstK (m1 appendD) (varE 1) (consA (opnE mkTup (consA (cstE (.str [68, 105, 118, 105, 115, 105, 111, 110, 66, 121, 90, 101, 114, 111])) nilA)) nilA)))
def c_bare_3 (c : CallT) : SS := (iteS (valT (op1E (isiD [.cls 2]) (varE 0))) (c_bare_4 c) skipS)
def c_bare_6 (c : CallT) : SS := (exprS (methE lstK (m1 appendD) (varE 1) (consA (opnE mkTup (consA (cstE (.str [66, 97, 100, 87, 101, 105, 103, 104, 116])) nilA)) nilA)))
def c_bare_5 (c : CallT) : SS := (iteS (valT (op1E (isiD [.cls 9]) (varE 0))) (c_bare_6 c) skipS)
def c_bare_8 (c : CallT) : SS := (exprS (methE lstK (m1 appendD) (varE 1) (consA (opnE mkTup (consA (cstE (.str [77, 105, 115, 109, 97, 116, 99, 104])) nilA)) nilA)))
def c_bare_7 (c : CallT) : SS := (iteS (valT (op1E (isiD [.cls 10]) (varE 0))) (c_bare_8 c) skipS)
def c_bare_10 (c : CallT) : SS := (exprS (methE lstK (m1 appendD) (varE 1) (consA (opnE mkTup (consA (cstE (.str [78, 111, 72, 101, 108, 112, 101, 114])) nilA)) nilA)))
def c_bare_9 (c : CallT) : SS := (iteS (valT (op1E (isiD [.cls 11]) (varE 0))) (c_bare_10 c) skipS)
def c_bare_12 (c : CallT) : SS := (exprS (methE lstK (m1 appendD) (varE 1) (consA (opnE mkTup (consA (cstE (.str [71, 97, 109, 101, 79, 118, 101, 114])) nilA)) nilA)))
def c_bare_11 (c : CallT) : SS := (iteS (valT (op1E (isiD [.cls 14]) (varE 0))) (c_bare_12 c) skipS)
def c_bare_14 (c : CallT) : SS := (exprS (methE lstK (m1 appendD) (varE 1) (consA (opnE mkTup (consA (cstE (.str [78, 111, 116, 104, 105, 110, 103, 84, 111, 84, 97, 107, 101, 66, 97, 99, 107])) nilA)) nilA)))
def c_bare_13 (c : CallT) : SS := (iteS (valT (op1E (isiD [.cls 15]) (varE 0))) (c_bare_14 c) skipS)
def c_bare_15 (c : CallT) : SS := (retS (varE 1))
/-- 15: _law_bare -/
def c_bare (c : CallT) : SS := (seqS (c_bare_0 c) (seqS (c_bare_1 c) (seqS (c_bare_3 c) (seqS (c_bare_5 c) (seqS (c_bare_7 c) (seqS (c_bare_9 c) (seqS (c_bare_11 c) (seqS (c_bare_13 c) (c_bare_15 c)))))))))
def c_most_0 (c : CallT) : SS := (retS (op2E subsD (opnE newL (consA (cstE (.int 8)) (consA (cstE (.int 8)) (consA (cstE (.int 5)) (consA (cstE (.int 4)) (consA (cstE (.int 3)) nilA)))))) (op2E subD (varE 0) (cstE (.int 1)))))
/-- 16: _law_most -/
def c_most (c : CallT) : SS := (c_most_0 c)
def c_row_0 (c : CallT) : SS := (setS (nameG 3) (callE c i_take [] (consA (varE 0) (consA (cstE (.int 8)) nilA))))
def c_row_1 (c : CallT) : SS := (setS (nameG 4) (callE c i_edge [] (consA (varE 0) (consA (varE 2) nilA))))
def c_row_2 (c : CallT) : SS := (setS (nameG 5) (cstE (.str [])))
def c_row_5 (c : CallT) : SS := (setS (nameG 7) (cstE (.int 0)))
def c_row_7 (c : CallT) : SS := (setS (nameG 7) (op2E subD (varE 1) (cstE (.int 1))))
def c_row_9 (c : CallT) : SS := (setS (nameG 7) (op2E modD (opnE (one intD) (consA (op2E addD (varE 6) (varE 4)) nilA)) (varE 1)))
def c_row_10 (c : CallT) : SS := (setS (nameG 7) (callE c i_take [] (consA (varE 0) (consA (varE 1) nilA))))
def c_row_8 (c : CallT) : SS := (iteS (valT (op2E eqD (varE 3) (cstE (.int 2)))) (c_row_9 c) (c_row_10 c))
def c_row_6 (c : CallT) : SS := (iteS (orT (valT (op2E eqD (varE 3) (cstE (.int 1)))) (valT (op2E eqD (varE 3) (cstE (.int 3))))) (c_row_7 c) (c_row_8 c))
def c_row_4 (c : CallT) : SS := (iteS (orT (valT (op2E eqD (varE 3) (cstE (.int 0)))) (andT (valT (op2E eqD (varE 3) (cstE (.int 3)))) (valT (op2E neD (varE 6) (varE 4))))) (c_row_5 c) (c_row_6 c))
def c_row_11 (c : CallT) : SS := (setS (nameG 5) (op2E addD (varE 5) (opnE (one strD) (consA (varE 7) nilA))))
def c_row_3 (c : CallT) : SS := (forS (rangeI1 (consA (varE 2) nilA)) (nameG 6) (seqS (c_row_4 c) (c_row_11 c)))
def c_row_12 (c : CallT) : SS := (retS (varE 5))
/-- 17: _law_row -/
def c_row (c : CallT) : SS := (seqS (c_row_0 c) (seqS (c_row_1 c) (seqS (c_row_2 c) (seqS (c_row_3 c) (c_row_12 c)))))
def c_bad_text_0 (c : CallT) : SS := (setS (nameG 4) (callE c i_take [] (consA (varE 0) (consA (cstE (.int 4)) nilA))))
def c_bad_text_2 (c : CallT) : SS := (retS (callE c i_free [] (consA (varE 0) (consA (varE 1) (consA (op2E addD (op2E addD (varE 3) (cstE (.int 1))) (callE c i_take [] (consA (varE 0) (consA (cstE (.int 2)) nilA)))) nilA)))))
def c_bad_text_1 (c : CallT) : SS := (iteS (orT (valT (op2E eqD (varE 4) (cstE (.int 0)))) (valT (op2E ltD (varE 3) (cstE (.int 0))))) (c_bad_text_2 c) skipS)
def c_bad_text_4 (c : CallT) : SS := (retS (callE c i_free [] (consA (varE 0) (consA (varE 1) (consA (callE c i_edge [] (consA (varE 0) (consA (varE 2) nilA))) nilA)))))
def c_bad_text_3 (c : CallT) : SS := (iteS (andT (valT (op2E eqD (varE 4) (cstE (.int 1)))) (valT (op2E gtD (varE 2) (cstE (.int 0))))) (c_bad_text_4 c) skipS)
def c_bad_text_5 (c : CallT) : SS := (setS (nameG 5) (op2E addD (opnE maxD (consA (cstE (.int 1)) (consA (varE 2) nilA))) (callE c i_take [] (consA (varE 0) (consA (op2E subD (op2E addD (cstE (.int 1)) (opnE maxD (consA (cstE (.int 1)) (consA (varE 3) nilA)))) (opnE maxD (consA (cstE (.int 1)) (consA (varE 2) nilA)))) nilA)))))
def c_bad_text_6 (c : CallT) : SS := (setS (nameG 6) (callE c i_free [] (consA (varE 0) (consA (varE 1) (consA (varE 5) nilA)))))
def c_bad_text_7 (c : CallT) : SS := (setS (nameG 7) (callE c i_edge [] (consA (varE 0) (consA (varE 5) nilA))))
def c_bad_text_8 (c : CallT) : SS := (setS (nameG 8) (opnE newL (consA (cstE (.str [48])) (consA (cstE (.str [49])) (consA (cstE (.str [50])) (consA (cstE (.str [51])) (consA (cstE (.str [52])) (consA (cstE (.str [53])) (consA (cstE (.str [57])) (consA (cstE (.str [97])) (consA (cstE (.str [98])) (consA (cstE (.str [99])) (consA (cstE (.str [100])) (consA (cstE (.str [65])) (consA (cstE (.str [32])) (consA (cstE (.str [45])) (consA (cstE (.str [126])) nilA)))))))))))))))))
def c_bad_text_9 (c : CallT) : SS := (setS (nameG 9) (cstE (.str [45])))
def c_bad_text_11 (c : CallT) : SS := (setS (nameG 9) (op2E subsD (opnE newL (consA (cstE (.str [48])) (consA (cstE (.str [49])) (consA (cstE (.str [50])) (consA (cstE (.str [51])) (consA (cstE (.str [52])) (consA (cstE (.str [53])) nilA))))))) (opnE (one lenD) (consA (varE 1) nilA))))
def c_bad_text_12 (c : CallT) : SS := (setS (nameG 9) (op2E subsD (varE 8) (callE c i_take [] (consA (varE 0) (consA (opnE (one lenD) (consA (varE 8) nilA)) nilA)))))
def c_bad_text_10 (c : CallT) : SS := (iteS (valT (op2E eqD (callE c i_take [] (consA (varE 0) (consA (cstE (.int 2)) nilA))) (cstE (.int 0)))) (c_bad_text_11 c) (c_bad_text_12 c))
def c_bad_text_14 (c : CallT) : SS := (setS (nameG 9) (cstE (.str [45])))
def c_bad_text_13 (c : CallT) : SS := (iteS (valT (op2E inD (varE 9) (varE 1))) (c_bad_text_14 c) skipS)
def c_bad_text_15 (c : CallT) : SS := (retS (op2E addD (op2E addD (sliceE (varE 6) none (some (varE 7))) (varE 9)) (sliceE (varE 6) (some (op2E addD (varE 7) (cstE (.int 1)))) none)))
/-- 18: _law_bad_text -/
def c_bad_text (c : CallT) : SS := (seqS (c_bad_text_0 c) (seqS (c_bad_text_1 c) (seqS (c_bad_text_3 c) (seqS (c_bad_text_5 c) (seqS (c_bad_text_6 c) (seqS (c_bad_text_7 c) (seqS (c_bad_text_8 c) (seqS (c_bad_text_9 c) (seqS (c_bad_text_10 c) (seqS (c_bad_text_13 c) (c_bad_text_15 c)))))))))))
def c_free_0 (c : CallT) : SS := (setS (nameG 3) (cstE (.str [])))
def c_free_2 (c : CallT) : SS := (setS (nameG 3) (op2E addD (varE 3) (op2E subsD (varE 1) (callE c i_take [] (consA (varE 0) (consA (opnE (one lenD) (consA (varE 1) nilA)) nilA))))))
def c_free_1 (c : CallT) : SS := (forS (rangeI1 (consA (varE 2) nilA)) (nameG 4) (c_free_2 c))
def c_free_3 (c : CallT) : SS := (retS (varE 3))
/-- 19: _law_free -/
def c_free (c : CallT) : SS := (seqS (c_free_0 c) (seqS (c_free_1 c) (c_free_3 c)))
def c_order_0 (c : CallT) : SS := (setS (nameG 2) (sliceE (cstE (.str [48, 49, 50, 51, 52])) none (some (varE 1))))
def c_order_1 (c : CallT) : SS := (setS (nameG 3) (callE c i_take [] (consA (varE 0) (consA (cstE (.int 6)) nilA))))
def c_order_3 (c : CallT) : SS := (retS (varE 2))
def c_order_2 (c : CallT) : SS := (iteS (valT (op2E eqD (varE 3) (cstE (.int 0)))) (c_order_3 c) skipS)
def c_order_5 (c : CallT) : SS := (retS (op1E backD (varE 2)))
def c_order_4 (c : CallT) : SS := (iteS (valT (op2E eqD (varE 3) (cstE (.int 1)))) (c_order_5 c) skipS)
def c_order_7 (c : CallT) : SS := (retS (op2E addD (sliceE (varE 2) (some (cstE (.int 1))) none) (sliceE (varE 2) none (some (cstE (.int 1))))))
def c_order_6 (c : CallT) : SS := (iteS (valT (op2E eqD (varE 3) (cstE (.int 2)))) (c_order_7 c) skipS)
def c_order_8 (c : CallT) : SS := (retS (methE strK (m1 joinD) (cstE (.str [])) (consA (callE c i_shuffled [] (consA (varE 0) (consA (compE [4] (seqI (varE 2)) (nameG 4) yesT (varE 4)) nilA))) nilA)))
/-- 20: _law_order -/
def c_order (c : CallT) : SS := (seqS (c_order_0 c) (seqS (c_order_1 c) (seqS (c_order_2 c) (seqS (c_order_4 c) (seqS (c_order_6 c) (c_order_8 c))))))
def c_bad_order_0 (c : CallT) : SS := (setS (nameG 1) (op2E addD (cstE (.int 1)) (callE c i_take [] (consA (varE 0) (consA (cstE (.int 5)) nilA)))))
def c_bad_order_1 (c : CallT) : SS := (setS (nameG 2) (callE c i_order [] (consA (varE 0) (consA (varE 1) nilA))))
def c_bad_order_2 (c : CallT) : SS := (setS (nameG 3) (callE c i_take [] (consA (varE 0) (consA (varE 1) nilA))))
def c_bad_order_3 (c : CallT) : SS := (setS (nameG 4) (op2E subsD (varE 2) (op2E modD (opnE (one intD) (consA (op2E addD (varE 3) (cstE (.int 1))) nilA)) (varE 1))))
def c_bad_order_5 (c : CallT) : SS := (setS (nameG 4) (cstE (.str [49])))
def c_bad_order_4 (c : CallT) : SS := (iteS (valT (op2E eqD (varE 1) (cstE (.int 1)))) (c_bad_order_5 c) skipS)
def c_bad_order_6 (c : CallT) : SS := (setS (nameG 5) (opnE newL (consA (cstE (.str [])) (consA (op2E addD (varE 2) (op2E subsD (varE 2) (varE 3))) (consA (cstE (.str [48, 49, 50, 51, 52, 53])) (consA (op2E addD (op2E addD (sliceE (varE 2) none (some (varE 3))) (varE 4)) (sliceE (varE 2) (some (op2E addD (varE 3) (cstE (.int 1)))) none)) (consA (op2E addD (op2E addD (sliceE (varE 2) none (some (varE 3))) (cstE (.str [45]))) (sliceE (varE 2) (some (op2E addD (varE 3) (cstE (.int 1)))) none)) nilA)))))))
def c_bad_order_7 (c : CallT) : SS := (setS (nameG 5) (op2E addD (varE 5) (opnE newL (consA (op2E addD (op2E addD (sliceE (varE 2) none (some (varE 3))) (opnE (one strD) (consA (varE 1) nilA))) (sliceE (varE 2) (some (op2E addD (varE 3) (cstE (.int 1)))) none)) (consA (op2E addD (varE 2) (cstE (.str [32]))) (consA (op2E addD (cstE (.str [48])) (varE 2)) (consA (op2E addD (varE 2) (opnE (one strD) (consA (op2E addD (varE 1) (cstE (.int 1))) nilA))) nilA)))))))
def c_bad_order_8 (c : CallT) : SS := (retS (op2E subsD (varE 5) (callE c i_take [] (consA (varE 0) (consA (opnE (one lenD) (consA (varE 5) nilA)) nilA)))))
/-- 21: _law_bad_order -/
def c_bad_order (c : CallT) : SS := (seqS (c_bad_order_0 c) (seqS (c_bad_order_1 c) (seqS (c_bad_order_2 c) (seqS (c_bad_order_3 c) (seqS (c_bad_order_4 c) (seqS (c_bad_order_6 c) (seqS (c_bad_order_7 c) (c_bad_order_8 c))))))))
def c_renamed_by_1 (c : CallT) : SS := (setS (nameG 2) (callE c i_renamed [] (consA (varE 0) (consA (varE 1) nilA))))
def c_renamed_by_2 (c : CallT) : SS := (retS (opnE mkTup (consA (cstE (.str [114, 101, 102, 117, 115, 101, 100])) (consA (callE c i_refusal [] (consA (varE 3) nilA)) nilA))))
def c_renamed_by_0 (c : CallT) : SS := (tryS [2] (c_renamed_by_1 c) 0 3 (c_renamed_by_2 c))
def c_renamed_by_3 (c : CallT) : SS := (retS (opnE mkTup (consA (cstE (.str [116, 111, 108, 100])) (consA (varE 2) nilA))))
/-- 22: _law_renamed_by -/
def c_renamed_by (c : CallT) : SS := (seqS (c_renamed_by_0 c) (c_renamed_by_3 c))
def c_back_of_1 (c : CallT) : SS := (setS (nameG 1) (callE c i_back_order [] (consA (varE 0) nilA)))
def c_back_of_2 (c : CallT) : SS := (retS (opnE mkTup (consA (cstE (.str [114, 101, 102, 117, 115, 101, 100])) (consA (callE c i_refusal [] (consA (varE 2) nilA)) nilA))))
def c_back_of_0 (c : CallT) : SS := (tryS [1] (c_back_of_1 c) 0 2 (c_back_of_2 c))
def c_back_of_3 (c : CallT) : SS := (retS (opnE mkTup (consA (cstE (.str [116, 111, 108, 100])) (consA (varE 1) nilA))))
/-- 23: _law_back_of -/
def c_back_of (c : CallT) : SS := (seqS (c_back_of_0 c) (c_back_of_3 c))
def c_is_order_1 (c : CallT) : SS := (retS (cstE (.bl false)))
def c_is_order_0 (c : CallT) : SS := (iteS (orT (valT (op2E ltD (opnE (one lenD) (consA (varE 0) nilA)) (cstE (.int 1)))) (valT (op2E gtD (opnE (one lenD) (consA (varE 0) nilA)) (cstE (.int 5))))) (c_is_order_1 c) skipS)
def c_is_order_4 (c : CallT) : SS := (retS (cstE (.bl false)))
def c_is_order_3 (c : CallT) : SS := (iteS (valT (op2E ninD (varE 1) (varE 0))) (c_is_order_4 c) skipS)
def c_is_order_2 (c : CallT) : SS := (forS (seqI (sliceE (cstE (.str [48, 49, 50, 51, 52])) none (some (opnE (one lenD) (consA (varE 0) nilA))))) (nameG 1) (c_is_order_3 c))
def c_is_order_5 (c : CallT) : SS := (retS (cstE (.bl true)))
/-- 24: _law_is_order -/
def c_is_order (c : CallT) : SS := (seqS (c_is_order_0 c) (seqS (c_is_order_2 c) (c_is_order_5 c)))
def c_is_renamed_1 (c : CallT) : SS := (retS (cstE (.bl false)))
def c_is_renamed_0 (c : CallT) : SS := (iteS (orT (valT (op2E neD (op2E subsD (varE 0) (cstE (.int 0))) (cstE (.str [116, 111, 108, 100])))) (orT (notT (valT (op1E (isiD [.str]) (op2E subsD (varE 0) (cstE (.int 1)))))) (valT (op2E neD (opnE (one lenD) (consA (op2E subsD (varE 0) (cstE (.int 1))) nilA)) (opnE (one lenD) (consA (varE 2) nilA)))))) (c_is_renamed_1 c) skipS)
def c_is_renamed_4 (c : CallT) : SS := (retS (cstE (.bl false)))
def c_is_renamed_3 (c : CallT) : SS := (iteS (valT (op2E neD (op2E subsD (op2E subsD (varE 0) (cstE (.int 1))) (varE 3)) (op2E subsD (varE 1) (opnE (one intD) (consA (op2E subsD (varE 2) (varE 3)) nilA))))) (c_is_renamed_4 c) skipS)
def c_is_renamed_2 (c : CallT) : SS := (forS (rangeI1 (consA (opnE (one lenD) (consA (varE 2) nilA)) nilA)) (nameG 3) (c_is_renamed_3 c))
def c_is_renamed_5 (c : CallT) : SS := (retS (cstE (.bl true)))
/-- 25: _law_is_renamed -/
def c_is_renamed (c : CallT) : SS := (seqS (c_is_renamed_0 c) (seqS (c_is_renamed_2 c) (c_is_renamed_5 c)))
def c_undone_0 (c : CallT) : SS := (setS (nameG 2) (callE c i_renamed_by [] (consA (varE 0) (consA (varE 1) nilA))))
def c_undone_2 (c : CallT) : SS := (retS (cstE (.bl false)))
def c_undone_1 (c : CallT) : SS := (iteS (notT (valT (callE c i_is_renamed [] (consA (varE 2) (consA (varE 0) (consA (varE 1) nilA)))))) (c_undone_2 c) skipS)
def c_undone_3 (c : CallT) : SS := (setS (nameG 3) (callE c i_back_of [] (consA (varE 0) nilA)))
def c_undone_5 (c : CallT) : SS := (retS (cstE (.bl false)))
def c_undone_4 (c : CallT) : SS := (iteS (orT (valT (op2E neD (op2E subsD (varE 3) (cstE (.int 0))) (cstE (.str [116, 111, 108, 100])))) (orT (notT (valT (op1E (isiD [.str]) (op2E subsD (varE 3) (cstE (.int 1)))))) (orT (notT (valT (callE c i_is_order [] (consA (op2E subsD (varE 3) (cstE (.int 1))) nilA)))) (valT (op2E neD (opnE (one lenD) (consA (op2E subsD (varE 3) (cstE (.int 1))) nilA)) (opnE (one lenD) (consA (varE 0) nilA))))))) (c_undone_5 c) skipS)
def c_undone_8 (c : CallT) : SS := (retS (cstE (.bl false)))
def c_undone_7 (c : CallT) : SS := (iteS (valT (op2E neD (op2E subsD (op2E subsD (varE 3) (cstE (.int 1))) (opnE (one intD) (consA (op2E subsD (varE 0) (varE 4)) nilA))) (opnE (one strD) (consA (varE 4) nilA)))) (c_undone_8 c) skipS)
def c_undone_6 (c : CallT) : SS := (forS (rangeI1 (consA (opnE (one lenD) (consA (varE 0) nilA)) nilA)) (nameG 4) (c_undone_7 c))
def c_undone_10 (c : CallT) : SS := (retS (cstE (.bl false)))
def c_undone_9 (c : CallT) : SS := (iteS (notT (valT (callE c i_same [] (consA (callE c i_renamed_by [] (consA (op2E subsD (varE 3) (cstE (.int 1))) (consA (op2E subsD (varE 2) (cstE (.int 1))) nilA))) (consA (opnE mkTup (consA (cstE (.str [116, 111, 108, 100])) (consA (varE 1) nilA))) nilA))))) (c_undone_10 c) skipS)
def c_undone_11 (c : CallT) : SS := (setS (nameG 5) (callE c i_renamed_by [] (consA (op2E subsD (varE 3) (cstE (.int 1))) (consA (varE 1) nilA))))
def c_undone_13 (c : CallT) : SS := (retS (cstE (.bl false)))
def c_undone_12 (c : CallT) : SS := (iteS (orT (valT (op2E neD (op2E subsD (varE 5) (cstE (.int 0))) (cstE (.str [116, 111, 108, 100])))) (notT (valT (callE c i_same [] (consA (callE c i_renamed_by [] (consA (varE 0) (consA (op2E subsD (varE 5) (cstE (.int 1))) nilA))) (consA (opnE mkTup (consA (cstE (.str [116, 111, 108, 100])) (consA (varE 1) nilA))) nilA)))))) (c_undone_13 c) skipS)
def c_undone_14 (c : CallT) : SS := (retS (callE c i_same [] (consA (callE c i_back_of [] (consA (op2E subsD (varE 3) (cstE (.int 1))) nilA)) (consA (opnE mkTup (consA (cstE (.str [116, 111, 108, 100])) (consA (varE 0) nilA))) nilA))))
/-- 26: _law_undone -/
def c_undone (c : CallT) : SS := (seqS (c_undone_0 c) (seqS (c_undone_1 c) (seqS (c_undone_3 c) (seqS (c_undone_4 c) (seqS (c_undone_6 c) (seqS (c_undone_9 c) (seqS (c_undone_11 c) (seqS (c_undone_12 c) (c_undone_14 c)))))))))
def c_order_judged_1 (c : CallT) : SS := (retS (callE c i_undone [] (consA (varE 0) (consA (op2E subsD (cstE (.str [48, 49, 50, 51, 52])) (op2E subD (opnE (one lenD) (consA (varE 0) nilA)) (cstE (.int 1)))) nilA))))
def c_order_judged_0 (c : CallT) : SS := (iteS (valT (callE c i_is_order [] (consA (varE 0) nilA))) (c_order_judged_1 c) skipS)
def c_order_judged_2 (c : CallT) : SS := (setS (nameG 2) (opnE mkTup (consA (cstE (.str [114, 101, 102, 117, 115, 101, 100])) (consA (opnE mkTup (consA (cstE (.str [66, 97, 100, 82, 111, 119])) (consA (varE 0) nilA))) nilA))))
def c_order_judged_4 (c : CallT) : SS := (retS (cstE (.bl false)))
def c_order_judged_3 (c : CallT) : SS := (iteS (orT (notT (valT (callE c i_same [] (consA (callE c i_back_of [] (consA (varE 0) nilA)) (consA (varE 2) nilA))))) (notT (valT (callE c i_same [] (consA (callE c i_renamed_by [] (consA (varE 0) (consA (varE 1) nilA))) (consA (varE 2) nilA)))))) (c_order_judged_4 c) skipS)
def c_order_judged_5 (c : CallT) : SS := (retS (callE c i_same [] (consA (callE c i_renamed_by [] (consA (varE 0) (consA (cstE (.str [])) nilA))) (consA (varE 2) nilA))))
/-- 27: _law_order_judged -/
def c_order_judged (c : CallT) : SS := (seqS (c_order_judged_0 c) (seqS (c_order_judged_2 c) (seqS (c_order_judged_3 c) (c_order_judged_5 c))))
def c_joint_0 (c : CallT) : SS := (setS (nameG 3) (methE strK (m1 joinD) (cstE (.str [])) (consA (compE [5] (seqI (varE 0)) (nameG 5) yesT (op2E subsD (varE 1) (opnE (one intD) (consA (varE 5) nilA)))) nilA)))
def c_joint_1 (c : CallT) : SS := (setS (nameG 4) (callE c i_renamed_by [] (consA (varE 0) (consA (varE 2) nilA))))
def c_joint_3 (c : CallT) : SS := (retS (cstE (.bl false)))
def c_joint_2 (c : CallT) : SS := (iteS (valT (op2E neD (op2E subsD (varE 4) (cstE (.int 0))) (cstE (.str [116, 111, 108, 100])))) (c_joint_3 c) skipS)
def c_joint_4 (c : CallT) : SS := (retS (callE c i_same [] (consA (callE c i_renamed_by [] (consA (varE 1) (consA (op2E subsD (varE 4) (cstE (.int 1))) nilA))) (consA (callE c i_renamed_by [] (consA (varE 3) (consA (varE 2) nilA))) nilA))))
/-- 28: _law_joint -/
def c_joint (c : CallT) : SS := (seqS (c_joint_0 c) (seqS (c_joint_1 c) (seqS (c_joint_2 c) (c_joint_4 c))))
def c_law_0 (c : CallT) : SS := (setS (nameG 1) (callE c i_store [] (consA (varE 0) nilA)))
def c_law_2 (c : CallT) : SS := (setS (nameG 3) (op2E addD (cstE (.int 1)) (callE c i_take [] (consA (varE 1) (consA (cstE (.int 5)) nilA)))))
def c_law_3 (c : CallT) : SS := (setS (nameG 4) (callE c i_order [] (consA (varE 1) (consA (varE 3) nilA))))
def c_law_4 (c : CallT) : SS := (setS (nameG 5) (callE c i_order [] (consA (varE 1) (consA (varE 3) nilA))))
def c_law_5 (c : CallT) : SS := (setS (nameG 6) (callE c i_most [] (consA (varE 3) nilA)))
def c_law_6 (c : CallT) : SS := (setS (nameG 7) (callE c i_row [] (consA (varE 1) (consA (varE 3) (consA (callE c i_edge [] (consA (varE 1) (consA (op2E addD (varE 6) (cstE (.int 1))) nilA))) nilA)))))
def c_law_7 (c : CallT) : SS := (setS (nameG 8) (callE c i_free [] (consA (varE 1) (consA (sliceE (cstE (.str [48, 49, 50, 51, 52])) none (some (varE 3))) (consA (callE c i_take [] (consA (varE 1) (consA (op2E addD (varE 6) (cstE (.int 1))) nilA))) nilA)))))
def c_law_9 (c : CallT) : SS := (retS (cstE (.bl false)))
def c_law_8 (c : CallT) : SS := (iteS (orT (notT (valT (callE c i_undone [] (consA (varE 4) (consA (varE 7) nilA))))) (orT (notT (valT (callE c i_undone [] (consA (varE 5) (consA (varE 8) nilA))))) (notT (valT (callE c i_joint [] (consA (varE 4) (consA (varE 5) (consA (varE 8) nilA)))))))) (c_law_9 c) skipS)
def c_law_10 (c : CallT) : SS := (setS (nameG 9) (callE c i_bad_text [] (consA (varE 1) (consA (sliceE (cstE (.str [48, 49, 50, 51, 52])) none (some (varE 3))) (consA (cstE (.int 0)) (consA (varE 6) nilA))))))
def c_law_12 (c : CallT) : SS := (retS (cstE (.bl false)))
def c_law_11 (c : CallT) : SS := (iteS (notT (valT (callE c i_same [] (consA (callE c i_renamed_by [] (consA (varE 4) (consA (varE 9) nilA))) (consA (opnE mkTup (consA (cstE (.str [114, 101, 102, 117, 115, 101, 100])) (consA (opnE mkTup (consA (cstE (.str [66, 97, 100, 82, 111, 119])) (consA (varE 9) nilA))) nilA))) nilA))))) (c_law_12 c) skipS)
def c_law_14 (c : CallT) : SS := (retS (cstE (.bl false)))
def c_law_13 (c : CallT) : SS := (iteS (orT (notT (valT (callE c i_order_judged [] (consA (callE c i_bad_order [] (consA (varE 1) nilA)) (consA (varE 7) nilA))))) (notT (valT (callE c i_order_judged [] (consA (callE c i_bad_order [] (consA (varE 1) nilA)) (consA (varE 9) nilA)))))) (c_law_14 c) skipS)
def c_law_16 (c : CallT) : SS := (setS (nameG 11) (op2E subsD (opnE newL (consA (cstE (.str [48, 49])) (consA (cstE (.str [48, 49, 50])) (consA (cstE (.str [48, 49, 50, 51])) (consA (cstE (.str [48, 49, 50, 51, 52])) (consA (cstE (.str [48, 49, 50, 51, 32, 45, 97])) nilA)))))) (callE c i_take [] (consA (varE 1) (consA (cstE (.int 5)) nilA)))))
def c_law_18 (c : CallT) : SS := (retS (cstE (.bl false)))
def c_law_17 (c : CallT) : SS := (iteS (notT (valT (callE c i_order_judged [] (consA (callE c i_free [] (consA (varE 1) (consA (varE 11) (consA (callE c i_take [] (consA (varE 1) (consA (cstE (.int 7)) nilA))) nilA)))) (consA (varE 7) nilA))))) (c_law_18 c) skipS)
def c_law_15 (c : CallT) : SS := (forS (rangeI1 (consA (cstE (.int 4)) nilA)) (nameG 10) (seqS (c_law_16 c) (c_law_17 c)))
def c_law_19 (c : CallT) : SS := (setS (nameG 12) (sliceE (varE 4) none (some (op2E subD (opnE (one lenD) (consA (varE 4) nilA)) (cstE (.int 1))))))
def c_law_21 (c : CallT) : SS := (retS (cstE (.bl false)))
def c_law_20 (c : CallT) : SS := (iteS (orT (notT (valT (callE c i_order_judged [] (consA (varE 12) (consA (varE 7) nilA))))) (notT (valT (callE c i_order_judged [] (consA (op2E addD (varE 4) (varE 12)) (consA (varE 7) nilA)))))) (c_law_21 c) skipS)
def c_law_23 (c : CallT) : SS := (retS (cstE (.bl false)))
def c_law_22 (c : CallT) : SS := (iteS (orT (notT (valT (callE c i_undone [] (consA (varE 4) (consA (varE 7) nilA))))) (notT (valT (callE c i_joint [] (consA (varE 5) (consA (varE 4) (consA (varE 7) nilA))))))) (c_law_23 c) skipS)
def c_law_1 (c : CallT) : SS := (forS (rangeI1 (consA (op2E addD (cstE (.int 1)) (callE c i_take [] (consA (varE 1) (consA (cstE (.int 4)) nilA)))) nilA)) (nameG 2) (seqS (c_law_2 c) (seqS (c_law_3 c) (seqS (c_law_4 c) (seqS (c_law_5 c) (seqS (c_law_6 c) (seqS (c_law_7 c) (seqS (c_law_8 c) (seqS (c_law_10 c) (seqS (c_law_11 c) (seqS (c_law_13 c) (seqS (c_law_15 c) (seqS (c_law_19 c) (seqS (c_law_20 c) (c_law_22 c)))))))))))))))
def c_law_24 (c : CallT) : SS := (retS (cstE (.bl true)))
/-- 29: law -/
def c_law (c : CallT) : SS := (seqS (c_law_0 c) (seqS (c_law_1 c) (c_law_24 c)))
/-! ### the tables -/
abbrev theRow : PySem.W.OpenLaw := PySem.Challenge.rw_notbehind_k09_orders_and_back
def top (i : Nat) : Stmt := theRow.prog.main.body.getD i (.Pass ⟨0, 0, 0, 0⟩)
def ini (i : Nat) : Stmt := match top i with
  | .ClassDef _ _ _ b _ _ _ _ _ _ _ => b.getD 0 (.Pass ⟨0, 0, 0, 0⟩)
  | s => s
def d0 : Df := ⟨"check_count", "check_count", defArgs (top 25), defBody (top 25), defScope (top 25), [], ["found", "low", "high"], ["found", "low", "high"], c_check_count, false⟩
def d1 : Df := ⟨"has_only", "has_only", defArgs (top 26), defBody (top 26), defScope (top 26), [], ["text", "signs"], ["text", "signs", "sign"], c_has_only, false⟩
def d2 : Df := ⟨"check_text", "check_text", defArgs (top 27), defBody (top 27), defScope (top 27), [], ["text", "width", "longest"], ["text", "width", "longest"], c_check_text, false⟩
def d3 : Df := ⟨"check_order", "check_order", defArgs (top 28), defBody (top 28), defScope (top 28), [], ["order"], ["order", "sign"], c_check_order, false⟩
def d4 : Df := ⟨"most_rounds", "most_rounds", defArgs (top 29), defBody (top 29), defScope (top 29), [], ["width"], ["width"], c_most_rounds, false⟩
def d5 : Df := ⟨"letters", "letters", defArgs (top 30), defBody (top 30), defScope (top 30), [], ["width"], ["width"], c_letters, false⟩
def d6 : Df := ⟨"renamed", "renamed", defArgs (top 31), defBody (top 31), defScope (top 31), [], ["order", "text"], ["order", "text", "sign"], c_renamed, false⟩
def d7 : Df := ⟨"back_order", "back_order", defArgs (top 32), defBody (top 32), defScope (top 32), [], ["order"], ["order", "sign"], c_back_order, false⟩
def d8 : Df := ⟨"_law_store", "_law_store", defArgs (top 34), defBody (top 34), defScope (top 34), [], ["_law_script"], ["_law_script", "_law_cell"], c_store, false⟩
def d9 : Df := ⟨"_law_mixed", "_law_mixed", defArgs (top 35), defBody (top 35), defScope (top 35), [], ["_law_store_here"], ["_law_store_here", "_law_prime", "_law_found"], c_mixed, false⟩
def d10 : Df := ⟨"_law_take", "_law_take", defArgs (top 36), defBody (top 36), defScope (top 36), [], ["_law_store_here", "_law_many"], ["_law_store_here", "_law_many", "_law_cell", "_law_found"], c_take, false⟩
def d11 : Df := ⟨"_law_edge", "_law_edge", defArgs (top 37), defBody (top 37), defScope (top 37), [], ["_law_store_here", "_law_many"], ["_law_store_here", "_law_many", "_law_kind"], c_edge, false⟩
def d12 : Df := ⟨"_law_shuffled", "_law_shuffled", defArgs (top 38), defBody (top 38), defScope (top 38), [], ["_law_store_here", "_law_things"], ["_law_store_here", "_law_things", "_law_rest", "_law_found", "_law_k"], c_shuffled, false⟩
def d13 : Df := ⟨"_law_same", "_law_same", defArgs (top 39), defBody (top 39), defScope (top 39), [], ["_law_actual", "_law_due"], ["_law_actual", "_law_due", "_law_k"], c_same, false⟩
def d14 : Df := ⟨"_law_refusal", "_law_refusal", defArgs (top 40), defBody (top 40), defScope (top 40), [], ["_law_e"], ["_law_e", "_law_found"], c_refusal, true⟩
def d15 : Df := ⟨"_law_bare", "_law_bare", defArgs (top 41), defBody (top 41), defScope (top 41), [], ["_law_e"], ["_law_e", "_law_found"], c_bare, true⟩
def d16 : Df := ⟨"_law_most", "_law_most", defArgs (top 42), defBody (top 42), defScope (top 42), [], ["_law_width"], ["_law_width"], c_most, false⟩
def d17 : Df := ⟨"_law_row", "_law_row", defArgs (top 43), defBody (top 43), defScope (top 43), [], ["_law_store_here", "_law_width", "_law_size"], ["_law_store_here", "_law_width", "_law_size", "_law_kind", "_law_odd", "_law_found", "_law_k", "_law_y"], c_row, false⟩
def d18 : Df := ⟨"_law_bad_text", "_law_bad_text", defArgs (top 44), defBody (top 44), defScope (top 44), [], ["_law_store_here", "_law_signs", "_law_low", "_law_high"], ["_law_store_here", "_law_signs", "_law_low", "_law_high", "_law_kind", "_law_size", "_law_text", "_law_at", "_law_menu", "_law_sign"], c_bad_text, false⟩
def d19 : Df := ⟨"_law_free", "_law_free", defArgs (top 45), defBody (top 45), defScope (top 45), [], ["_law_store_here", "_law_signs", "_law_size"], ["_law_store_here", "_law_signs", "_law_size", "_law_found", "_law_k"], c_free, false⟩
def d20 : Df := ⟨"_law_order", "_law_order", defArgs (top 46), defBody (top 46), defScope (top 46), [], ["_law_store_here", "_law_width"], ["_law_store_here", "_law_width", "_law_signs", "_law_kind", "_law_sign"], c_order, false⟩
def d21 : Df := ⟨"_law_bad_order", "_law_bad_order", defArgs (top 47), defBody (top 47), defScope (top 47), [], ["_law_store_here"], ["_law_store_here", "_law_width", "_law_text", "_law_at", "_law_other", "_law_menu"], c_bad_order, false⟩
def d22 : Df := ⟨"_law_renamed_by", "_law_renamed_by", defArgs (top 48), defBody (top 48), defScope (top 48), [], ["_law_order_here", "_law_text"], ["_law_order_here", "_law_text", "_law_answer", "_law_e"], c_renamed_by, false⟩
def d23 : Df := ⟨"_law_back_of", "_law_back_of", defArgs (top 49), defBody (top 49), defScope (top 49), [], ["_law_order_here"], ["_law_order_here", "_law_answer", "_law_e"], c_back_of, false⟩
def d24 : Df := ⟨"_law_is_order", "_law_is_order", defArgs (top 50), defBody (top 50), defScope (top 50), [], ["_law_text"], ["_law_text", "_law_sign"], c_is_order, false⟩
def d25 : Df := ⟨"_law_is_renamed", "_law_is_renamed", defArgs (top 51), defBody (top 51), defScope (top 51), [], ["_law_told", "_law_order_here", "_law_text"], ["_law_told", "_law_order_here", "_law_text", "_law_k"], c_is_renamed, false⟩
def d26 : Df := ⟨"_law_undone", "_law_undone", defArgs (top 52), defBody (top 52), defScope (top 52), [], ["_law_order_here", "_law_text"], ["_law_order_here", "_law_text", "_law_told", "_law_back", "_law_y", "_law_turned"], c_undone, false⟩
def d27 : Df := ⟨"_law_order_judged", "_law_order_judged", defArgs (top 53), defBody (top 53), defScope (top 53), [], ["_law_order_here", "_law_text"], ["_law_order_here", "_law_text", "_law_due"], c_order_judged, false⟩
def d28 : Df := ⟨"_law_joint", "_law_joint", defArgs (top 54), defBody (top 54), defScope (top 54), [], ["_law_first", "_law_second", "_law_text"], ["_law_first", "_law_second", "_law_text", "_law_joint_here", "_law_middle", "_law_sign"], c_joint, false⟩
def d29 : Df := ⟨"law", "law", defArgs (top 55), defBody (top 55), defScope (top 55), [], ["_law_script"], ["_law_script", "_law_store_here", "_law_k", "_law_width", "_law_first", "_law_second", "_law_most_here", "_law_text", "_law_free_here", "_law_bad", "_law_j", "_law_signs", "_law_near"], c_law, false⟩
def i3 : In := ⟨3, "BadCount", ["found", "low", "high"], "BadCount.__init__", defArgs (ini 4), defBody (ini 4), defScope (ini 4)⟩
def i4 : In := ⟨4, "BadSize", ["found", "due"], "BadSize.__init__", defArgs (ini 5), defBody (ini 5), defScope (ini 5)⟩
def i5 : In := ⟨5, "BadName", ["found"], "BadName.__init__", defArgs (ini 6), defBody (ini 6), defScope (ini 6)⟩
def i6 : In := ⟨6, "BadText", ["line"], "BadText.__init__", defArgs (ini 7), defBody (ini 7), defScope (ini 7)⟩
def i7 : In := ⟨7, "BadRow", ["found"], "BadRow.__init__", defArgs (ini 8), defBody (ini 8), defScope (ini 8)⟩
def i8 : In := ⟨8, "BadShare", ["at"], "BadShare.__init__", defArgs (ini 9), defBody (ini 9), defScope (ini 9)⟩
def i12 : In := ⟨12, "NotExact", ["beginning"], "NotExact.__init__", defArgs (ini 13), defBody (ini 13), defScope (ini 13)⟩
def i13 : In := ⟨13, "Lacking", ["amount"], "Lacking.__init__", defArgs (ini 14), defBody (ini 14), defScope (ini 14)⟩
def i16 : In := ⟨16, "UnknownName", ["name"], "UnknownName.__init__", defArgs (ini 17), defBody (ini 17), defScope (ini 17)⟩
def i17 : In := ⟨17, "TakenName", ["name"], "TakenName.__init__", defArgs (ini 18), defBody (ini 18), defScope (ini 18)⟩
def i18 : In := ⟨18, "WrongKind", ["name"], "WrongKind.__init__", defArgs (ini 19), defBody (ini 19), defScope (ini 19)⟩
def i19 : In := ⟨19, "InUse", ["name", "user"], "InUse.__init__", defArgs (ini 20), defBody (ini 20), defScope (ini 20)⟩
def tb : Tb where
  defs := [d0, d1, d2, d3, d4, d5, d6, d7, d8, d9, d10, d11, d12, d13, d14, d15, d16, d17, d18, d19, d20, d21, d22, d23, d24, d25, d26, d27, d28, d29]
  free := ["int", "bool", "str", "tuple", "list", "ValueError", "len", "abs", "max", "isinstance", "range"]
  cls := [("NotBehindError", []), ("BadNumber", []), ("DivisionByZero", []), ("BadCount", ["found", "low", "high"]), ("BadSize", ["found", "due"]), ("BadName", ["found"]), ("BadText", ["line"]), ("BadRow", ["found"]), ("BadShare", ["at"]), ("BadWeight", []), ("Mismatch", []), ("NoHelper", []), ("NotExact", ["beginning"]), ("Lacking", ["amount"]), ("GameOver", []), ("NothingToTakeBack", []), ("UnknownName", ["name"]), ("TakenName", ["name"]), ("WrongKind", ["name"]), ("InUse", ["name", "user"])]
  ini := [i3, i4, i5, i6, i7, i8, i12, i13, i16, i17, i18, i19]
  vls := [.str "OUTCOMES" "01234", .int "WIDEST" 5, .tup "MOST_ROUNDS" [8, 8, 5, 4, 3]]
  flds := [("amount", f_amount), ("at", f_at), ("beginning", f_beginning), ("due", f_due), ("found", f_found), ("high", f_high), ("line", f_line), ("low", f_low), ("name", f_name), ("user", f_user)]
@[irreducible] def LT : NB.Tab := tb.pg.tab
theorem LT_eq : tb.pg.tab = LT := by kernel_rfl
theorem e_check_count (n : Nat) (x0 x1 x2 : D) : callF LT (n + 1) i_check_count [x0, x1, x2] = bnd (c_check_count (callF LT n) [some x0, some x1, some x2]) endF := by kernel_rfl
theorem e_has_only (n : Nat) (x0 x1 : D) : callF LT (n + 1) i_has_only [x0, x1] = bnd (c_has_only (callF LT n) [some x0, some x1, none]) endF := by kernel_rfl
theorem e_check_text (n : Nat) (x0 x1 x2 : D) : callF LT (n + 1) i_check_text [x0, x1, x2] = bnd (c_check_text (callF LT n) [some x0, some x1, some x2]) endF := by kernel_rfl
theorem e_check_order (n : Nat) (x0 : D) : callF LT (n + 1) i_check_order [x0] = bnd (c_check_order (callF LT n) [some x0, none]) endF := by kernel_rfl
theorem e_most_rounds (n : Nat) (x0 : D) : callF LT (n + 1) i_most_rounds [x0] = bnd (c_most_rounds (callF LT n) [some x0]) endF := by kernel_rfl
theorem e_letters (n : Nat) (x0 : D) : callF LT (n + 1) i_letters [x0] = bnd (c_letters (callF LT n) [some x0]) endF := by kernel_rfl
theorem e_renamed (n : Nat) (x0 x1 : D) : callF LT (n + 1) i_renamed [x0, x1] = bnd (c_renamed (callF LT n) [some x0, some x1, none]) endF := by kernel_rfl
theorem e_back_order (n : Nat) (x0 : D) : callF LT (n + 1) i_back_order [x0] = bnd (c_back_order (callF LT n) [some x0, none]) endF := by kernel_rfl
theorem e_store (n : Nat) (x0 : D) : callF LT (n + 1) i_store [x0] = bnd (c_store (callF LT n) [some x0, none]) endF := by kernel_rfl
theorem e_mixed (n : Nat) (x0 : D) : callF LT (n + 1) i_mixed [x0] = bnd (c_mixed (callF LT n) [some x0, none, none]) endF := by kernel_rfl
theorem e_take (n : Nat) (x0 x1 : D) : callF LT (n + 1) i_take [x0, x1] = bnd (c_take (callF LT n) [some x0, some x1, none, none]) endF := by kernel_rfl
theorem e_edge (n : Nat) (x0 x1 : D) : callF LT (n + 1) i_edge [x0, x1] = bnd (c_edge (callF LT n) [some x0, some x1, none]) endF := by kernel_rfl
theorem e_shuffled (n : Nat) (x0 x1 : D) : callF LT (n + 1) i_shuffled [x0, x1] = bnd (c_shuffled (callF LT n) [some x0, some x1, none, none, none]) endF := by kernel_rfl
theorem e_same (n : Nat) (x0 x1 : D) : callF LT (n + 1) i_same [x0, x1] = bnd (c_same (callF LT n) [some x0, some x1, none]) endF := by kernel_rfl
theorem e_refusal (n : Nat) (x0 : D) : callF LT (n + 1) i_refusal [x0] = bnd (c_refusal (callF LT n) [some x0, none]) endF := by kernel_rfl
theorem e_bare (n : Nat) (x0 : D) : callF LT (n + 1) i_bare [x0] = bnd (c_bare (callF LT n) [some x0, none]) endF := by kernel_rfl
theorem e_most (n : Nat) (x0 : D) : callF LT (n + 1) i_most [x0] = bnd (c_most (callF LT n) [some x0]) endF := by kernel_rfl
theorem e_row (n : Nat) (x0 x1 x2 : D) : callF LT (n + 1) i_row [x0, x1, x2] = bnd (c_row (callF LT n) [some x0, some x1, some x2, none, none, none, none, none]) endF := by kernel_rfl
theorem e_bad_text (n : Nat) (x0 x1 x2 x3 : D) : callF LT (n + 1) i_bad_text [x0, x1, x2, x3] = bnd (c_bad_text (callF LT n) [some x0, some x1, some x2, some x3, none, none, none, none, none, none]) endF := by kernel_rfl
theorem e_free (n : Nat) (x0 x1 x2 : D) : callF LT (n + 1) i_free [x0, x1, x2] = bnd (c_free (callF LT n) [some x0, some x1, some x2, none, none]) endF := by kernel_rfl
theorem e_order (n : Nat) (x0 x1 : D) : callF LT (n + 1) i_order [x0, x1] = bnd (c_order (callF LT n) [some x0, some x1, none, none, none]) endF := by kernel_rfl
theorem e_bad_order (n : Nat) (x0 : D) : callF LT (n + 1) i_bad_order [x0] = bnd (c_bad_order (callF LT n) [some x0, none, none, none, none, none]) endF := by kernel_rfl
theorem e_renamed_by (n : Nat) (x0 x1 : D) : callF LT (n + 1) i_renamed_by [x0, x1] = bnd (c_renamed_by (callF LT n) [some x0, some x1, none, none]) endF := by kernel_rfl
theorem e_back_of (n : Nat) (x0 : D) : callF LT (n + 1) i_back_of [x0] = bnd (c_back_of (callF LT n) [some x0, none, none]) endF := by kernel_rfl
theorem e_is_order (n : Nat) (x0 : D) : callF LT (n + 1) i_is_order [x0] = bnd (c_is_order (callF LT n) [some x0, none]) endF := by kernel_rfl
theorem e_is_renamed (n : Nat) (x0 x1 x2 : D) : callF LT (n + 1) i_is_renamed [x0, x1, x2] = bnd (c_is_renamed (callF LT n) [some x0, some x1, some x2, none]) endF := by kernel_rfl
theorem e_undone (n : Nat) (x0 x1 : D) : callF LT (n + 1) i_undone [x0, x1] = bnd (c_undone (callF LT n) [some x0, some x1, none, none, none, none]) endF := by kernel_rfl
theorem e_order_judged (n : Nat) (x0 x1 : D) : callF LT (n + 1) i_order_judged [x0, x1] = bnd (c_order_judged (callF LT n) [some x0, some x1, none]) endF := by kernel_rfl
theorem e_joint (n : Nat) (x0 x1 x2 : D) : callF LT (n + 1) i_joint [x0, x1, x2] = bnd (c_joint (callF LT n) [some x0, some x1, some x2, none, none, none]) endF := by kernel_rfl
theorem e_law (n : Nat) (x0 : D) : callF LT (n + 1) i_law [x0] = bnd (c_law (callF LT n) [some x0, none, none, none, none, none, none, none, none, none, none, none, none]) endF := by kernel_rfl
/-! ### the checks -/
theorem k0 : compB 150 (tb.pg.gm d0 false) d0.body = some d0.code := by kernel_rfl
theorem s0 : FnScope d0.N d0.ps d0.scope := ⟨rfl, rfl, rfl, by decide +kernel, rfl, by decide +kernel, by decide +kernel⟩
theorem b0 : Bnd d0.x d0.qual d0.params d0.body d0.scope d0.ps := fun _ _ _ _ _ _ us hl => match us, hl with | [_, _, _], _ => rfl
theorem k1 : compB 150 (tb.pg.gm d1 false) d1.body = some d1.code := by kernel_rfl
theorem s1 : FnScope d1.N d1.ps d1.scope := ⟨rfl, rfl, rfl, by decide +kernel, rfl, by decide +kernel, by decide +kernel⟩
theorem b1 : Bnd d1.x d1.qual d1.params d1.body d1.scope d1.ps := fun _ _ _ _ _ _ us hl => match us, hl with | [_, _], _ => rfl
theorem k2 : compB 150 (tb.pg.gm d2 false) d2.body = some d2.code := by kernel_rfl
theorem s2 : FnScope d2.N d2.ps d2.scope := ⟨rfl, rfl, rfl, by decide +kernel, rfl, by decide +kernel, by decide +kernel⟩
theorem b2 : Bnd d2.x d2.qual d2.params d2.body d2.scope d2.ps := fun _ _ _ _ _ _ us hl => match us, hl with | [_, _, _], _ => rfl
theorem k3 : compB 150 (tb.pg.gm d3 false) d3.body = some d3.code := by kernel_rfl
theorem s3 : FnScope d3.N d3.ps d3.scope := ⟨rfl, rfl, rfl, by decide +kernel, rfl, by decide +kernel, by decide +kernel⟩
theorem b3 : Bnd d3.x d3.qual d3.params d3.body d3.scope d3.ps := fun _ _ _ _ _ _ us hl => match us, hl with | [_], _ => rfl
theorem k4 : compB 150 (tb.pg.gm d4 false) d4.body = some d4.code := by kernel_rfl
theorem s4 : FnScope d4.N d4.ps d4.scope := ⟨rfl, rfl, rfl, by decide +kernel, rfl, by decide +kernel, by decide +kernel⟩
theorem b4 : Bnd d4.x d4.qual d4.params d4.body d4.scope d4.ps := fun _ _ _ _ _ _ us hl => match us, hl with | [_], _ => rfl
theorem k5 : compB 150 (tb.pg.gm d5 false) d5.body = some d5.code := by kernel_rfl
theorem s5 : FnScope d5.N d5.ps d5.scope := ⟨rfl, rfl, rfl, by decide +kernel, rfl, by decide +kernel, by decide +kernel⟩
theorem b5 : Bnd d5.x d5.qual d5.params d5.body d5.scope d5.ps := fun _ _ _ _ _ _ us hl => match us, hl with | [_], _ => rfl
theorem k6 : compB 150 (tb.pg.gm d6 false) d6.body = some d6.code := by kernel_rfl
theorem s6 : FnScope d6.N d6.ps d6.scope := ⟨rfl, rfl, rfl, by decide +kernel, rfl, by decide +kernel, by decide +kernel⟩
theorem b6 : Bnd d6.x d6.qual d6.params d6.body d6.scope d6.ps := fun _ _ _ _ _ _ us hl => match us, hl with | [_, _], _ => rfl
theorem k7 : compB 150 (tb.pg.gm d7 false) d7.body = some d7.code := by kernel_rfl
theorem s7 : FnScope d7.N d7.ps d7.scope := ⟨rfl, rfl, rfl, by decide +kernel, rfl, by decide +kernel, by decide +kernel⟩
theorem b7 : Bnd d7.x d7.qual d7.params d7.body d7.scope d7.ps := fun _ _ _ _ _ _ us hl => match us, hl with | [_], _ => rfl
theorem k8 : compB 150 (tb.pg.gm d8 false) d8.body = some d8.code := by kernel_rfl
theorem s8 : FnScope d8.N d8.ps d8.scope := ⟨rfl, rfl, rfl, by decide +kernel, rfl, by decide +kernel, by decide +kernel⟩
theorem b8 : Bnd d8.x d8.qual d8.params d8.body d8.scope d8.ps := fun _ _ _ _ _ _ us hl => match us, hl with | [_], _ => rfl
theorem k9 : compB 150 (tb.pg.gm d9 false) d9.body = some d9.code := by kernel_rfl
theorem s9 : FnScope d9.N d9.ps d9.scope := ⟨rfl, rfl, rfl, by decide +kernel, rfl, by decide +kernel, by decide +kernel⟩
theorem b9 : Bnd d9.x d9.qual d9.params d9.body d9.scope d9.ps := fun _ _ _ _ _ _ us hl => match us, hl with | [_], _ => rfl
theorem k10 : compB 150 (tb.pg.gm d10 false) d10.body = some d10.code := by kernel_rfl
theorem s10 : FnScope d10.N d10.ps d10.scope := ⟨rfl, rfl, rfl, by decide +kernel, rfl, by decide +kernel, by decide +kernel⟩
theorem b10 : Bnd d10.x d10.qual d10.params d10.body d10.scope d10.ps := fun _ _ _ _ _ _ us hl => match us, hl with | [_, _], _ => rfl
theorem k11 : compB 150 (tb.pg.gm d11 false) d11.body = some d11.code := by kernel_rfl
theorem s11 : FnScope d11.N d11.ps d11.scope := ⟨rfl, rfl, rfl, by decide +kernel, rfl, by decide +kernel, by decide +kernel⟩
theorem b11 : Bnd d11.x d11.qual d11.params d11.body d11.scope d11.ps := fun _ _ _ _ _ _ us hl => match us, hl with | [_, _], _ => rfl
theorem k12 : compB 150 (tb.pg.gm d12 false) d12.body = some d12.code := by kernel_rfl
theorem s12 : FnScope d12.N d12.ps d12.scope := ⟨rfl, rfl, rfl, by decide +kernel, rfl, by decide +kernel, by decide +kernel⟩
theorem b12 : Bnd d12.x d12.qual d12.params d12.body d12.scope d12.ps := fun _ _ _ _ _ _ us hl => match us, hl with | [_, _], _ => rfl
theorem k13 : compB 150 (tb.pg.gm d13 false) d13.body = some d13.code := by kernel_rfl
theorem s13 : FnScope d13.N d13.ps d13.scope := ⟨rfl, rfl, rfl, by decide +kernel, rfl, by decide +kernel, by decide +kernel⟩
theorem b13 : Bnd d13.x d13.qual d13.params d13.body d13.scope d13.ps := fun _ _ _ _ _ _ us hl => match us, hl with | [_, _], _ => rfl
theorem k14 : compB 150 (tb.pg.gm d14 false) d14.body = some d14.code := by kernel_rfl
theorem kh14 : compB 150 (tb.pg.gm d14 true) d14.body = some d14.code := by kernel_rfl
theorem s14 : FnScope d14.N d14.ps d14.scope := ⟨rfl, rfl, rfl, by decide +kernel, rfl, by decide +kernel, by decide +kernel⟩
theorem b14 : Bnd d14.x d14.qual d14.params d14.body d14.scope d14.ps := fun _ _ _ _ _ _ us hl => match us, hl with | [_], _ => rfl
theorem k15 : compB 150 (tb.pg.gm d15 false) d15.body = some d15.code := by kernel_rfl
theorem kh15 : compB 150 (tb.pg.gm d15 true) d15.body = some d15.code := by kernel_rfl
theorem s15 : FnScope d15.N d15.ps d15.scope := ⟨rfl, rfl, rfl, by decide +kernel, rfl, by decide +kernel, by decide +kernel⟩
theorem b15 : Bnd d15.x d15.qual d15.params d15.body d15.scope d15.ps := fun _ _ _ _ _ _ us hl => match us, hl with | [_], _ => rfl
theorem k16 : compB 150 (tb.pg.gm d16 false) d16.body = some d16.code := by kernel_rfl
theorem s16 : FnScope d16.N d16.ps d16.scope := ⟨rfl, rfl, rfl, by decide +kernel, rfl, by decide +kernel, by decide +kernel⟩
theorem b16 : Bnd d16.x d16.qual d16.params d16.body d16.scope d16.ps := fun _ _ _ _ _ _ us hl => match us, hl with | [_], _ => rfl
theorem k17 : compB 150 (tb.pg.gm d17 false) d17.body = some d17.code := by kernel_rfl
theorem s17 : FnScope d17.N d17.ps d17.scope := ⟨rfl, rfl, rfl, by decide +kernel, rfl, by decide +kernel, by decide +kernel⟩
theorem b17 : Bnd d17.x d17.qual d17.params d17.body d17.scope d17.ps := fun _ _ _ _ _ _ us hl => match us, hl with | [_, _, _], _ => rfl
theorem k18 : compB 150 (tb.pg.gm d18 false) d18.body = some d18.code := by kernel_rfl
theorem s18 : FnScope d18.N d18.ps d18.scope := ⟨rfl, rfl, rfl, by decide +kernel, rfl, by decide +kernel, by decide +kernel⟩
theorem b18 : Bnd d18.x d18.qual d18.params d18.body d18.scope d18.ps := fun _ _ _ _ _ _ us hl => match us, hl with | [_, _, _, _], _ => rfl
theorem k19 : compB 150 (tb.pg.gm d19 false) d19.body = some d19.code := by kernel_rfl
theorem s19 : FnScope d19.N d19.ps d19.scope := ⟨rfl, rfl, rfl, by decide +kernel, rfl, by decide +kernel, by decide +kernel⟩
theorem b19 : Bnd d19.x d19.qual d19.params d19.body d19.scope d19.ps := fun _ _ _ _ _ _ us hl => match us, hl with | [_, _, _], _ => rfl
theorem k20 : compB 150 (tb.pg.gm d20 false) d20.body = some d20.code := by kernel_rfl
theorem s20 : FnScope d20.N d20.ps d20.scope := ⟨rfl, rfl, rfl, by decide +kernel, rfl, by decide +kernel, by decide +kernel⟩
theorem b20 : Bnd d20.x d20.qual d20.params d20.body d20.scope d20.ps := fun _ _ _ _ _ _ us hl => match us, hl with | [_, _], _ => rfl
theorem k21 : compB 150 (tb.pg.gm d21 false) d21.body = some d21.code := by kernel_rfl
theorem s21 : FnScope d21.N d21.ps d21.scope := ⟨rfl, rfl, rfl, by decide +kernel, rfl, by decide +kernel, by decide +kernel⟩
theorem b21 : Bnd d21.x d21.qual d21.params d21.body d21.scope d21.ps := fun _ _ _ _ _ _ us hl => match us, hl with | [_], _ => rfl
theorem k22 : compB 150 (tb.pg.gm d22 false) d22.body = some d22.code := by kernel_rfl
theorem s22 : FnScope d22.N d22.ps d22.scope := ⟨rfl, rfl, rfl, by decide +kernel, rfl, by decide +kernel, by decide +kernel⟩
theorem b22 : Bnd d22.x d22.qual d22.params d22.body d22.scope d22.ps := fun _ _ _ _ _ _ us hl => match us, hl with | [_, _], _ => rfl
theorem k23 : compB 150 (tb.pg.gm d23 false) d23.body = some d23.code := by kernel_rfl
theorem s23 : FnScope d23.N d23.ps d23.scope := ⟨rfl, rfl, rfl, by decide +kernel, rfl, by decide +kernel, by decide +kernel⟩
theorem b23 : Bnd d23.x d23.qual d23.params d23.body d23.scope d23.ps := fun _ _ _ _ _ _ us hl => match us, hl with | [_], _ => rfl
theorem k24 : compB 150 (tb.pg.gm d24 false) d24.body = some d24.code := by kernel_rfl
theorem s24 : FnScope d24.N d24.ps d24.scope := ⟨rfl, rfl, rfl, by decide +kernel, rfl, by decide +kernel, by decide +kernel⟩
theorem b24 : Bnd d24.x d24.qual d24.params d24.body d24.scope d24.ps := fun _ _ _ _ _ _ us hl => match us, hl with | [_], _ => rfl
theorem k25 : compB 150 (tb.pg.gm d25 false) d25.body = some d25.code := by kernel_rfl
theorem s25 : FnScope d25.N d25.ps d25.scope := ⟨rfl, rfl, rfl, by decide +kernel, rfl, by decide +kernel, by decide +kernel⟩
theorem b25 : Bnd d25.x d25.qual d25.params d25.body d25.scope d25.ps := fun _ _ _ _ _ _ us hl => match us, hl with | [_, _, _], _ => rfl
theorem k26 : compB 150 (tb.pg.gm d26 false) d26.body = some d26.code := by kernel_rfl
theorem s26 : FnScope d26.N d26.ps d26.scope := ⟨rfl, rfl, rfl, by decide +kernel, rfl, by decide +kernel, by decide +kernel⟩
theorem b26 : Bnd d26.x d26.qual d26.params d26.body d26.scope d26.ps := fun _ _ _ _ _ _ us hl => match us, hl with | [_, _], _ => rfl
theorem k27 : compB 150 (tb.pg.gm d27 false) d27.body = some d27.code := by kernel_rfl
theorem s27 : FnScope d27.N d27.ps d27.scope := ⟨rfl, rfl, rfl, by decide +kernel, rfl, by decide +kernel, by decide +kernel⟩
theorem b27 : Bnd d27.x d27.qual d27.params d27.body d27.scope d27.ps := fun _ _ _ _ _ _ us hl => match us, hl with | [_, _], _ => rfl
theorem k28 : compB 150 (tb.pg.gm d28 false) d28.body = some d28.code := by kernel_rfl
theorem s28 : FnScope d28.N d28.ps d28.scope := ⟨rfl, rfl, rfl, by decide +kernel, rfl, by decide +kernel, by decide +kernel⟩
theorem b28 : Bnd d28.x d28.qual d28.params d28.body d28.scope d28.ps := fun _ _ _ _ _ _ us hl => match us, hl with | [_, _, _], _ => rfl
theorem k29 : compB 150 (tb.pg.gm d29 false) d29.body = some d29.code := by kernel_rfl
theorem s29 : FnScope d29.N d29.ps d29.scope := ⟨rfl, rfl, rfl, by decide +kernel, rfl, by decide +kernel, by decide +kernel⟩
theorem b29 : Bnd d29.x d29.qual d29.params d29.body d29.scope d29.ps := fun _ _ _ _ _ _ us hl => match us, hl with | [_], _ => rfl
theorem dfs : AllP (fun d => DfOk tb.pg d ∧ d.dv = [] ∧ Bnd d.x d.qual d.params d.body d.scope d.ps) tb.defs := ⟨⟨⟨k0, (fun h => by cases h), s0⟩, rfl, b0⟩, ⟨⟨k1, (fun h => by cases h), s1⟩, rfl, b1⟩, ⟨⟨k2, (fun h => by cases h), s2⟩, rfl, b2⟩, ⟨⟨k3, (fun h => by cases h), s3⟩, rfl, b3⟩, ⟨⟨k4, (fun h => by cases h), s4⟩, rfl, b4⟩, ⟨⟨k5, (fun h => by cases h), s5⟩, rfl, b5⟩, ⟨⟨k6, (fun h => by cases h), s6⟩, rfl, b6⟩, ⟨⟨k7, (fun h => by cases h), s7⟩, rfl, b7⟩, ⟨⟨k8, (fun h => by cases h), s8⟩, rfl, b8⟩, ⟨⟨k9, (fun h => by cases h), s9⟩, rfl, b9⟩, ⟨⟨k10, (fun h => by cases h), s10⟩, rfl, b10⟩, ⟨⟨k11, (fun h => by cases h), s11⟩, rfl, b11⟩, ⟨⟨k12, (fun h => by cases h), s12⟩, rfl, b12⟩, ⟨⟨k13, (fun h => by cases h), s13⟩, rfl, b13⟩, ⟨⟨k14, fun _ => kh14, s14⟩, rfl, b14⟩, ⟨⟨k15, fun _ => kh15, s15⟩, rfl, b15⟩, ⟨⟨k16, (fun h => by cases h), s16⟩, rfl, b16⟩, ⟨⟨k17, (fun h => by cases h), s17⟩, rfl, b17⟩, ⟨⟨k18, (fun h => by cases h), s18⟩, rfl, b18⟩, ⟨⟨k19, (fun h => by cases h), s19⟩, rfl, b19⟩, ⟨⟨k20, (fun h => by cases h), s20⟩, rfl, b20⟩, ⟨⟨k21, (fun h => by cases h), s21⟩, rfl, b21⟩, ⟨⟨k22, (fun h => by cases h), s22⟩, rfl, b22⟩, ⟨⟨k23, (fun h => by cases h), s23⟩, rfl, b23⟩, ⟨⟨k24, (fun h => by cases h), s24⟩, rfl, b24⟩, ⟨⟨k25, (fun h => by cases h), s25⟩, rfl, b25⟩, ⟨⟨k26, (fun h => by cases h), s26⟩, rfl, b26⟩, ⟨⟨k27, (fun h => by cases h), s27⟩, rfl, b27⟩, ⟨⟨k28, (fun h => by cases h), s28⟩, rfl, b28⟩, ⟨⟨k29, (fun h => by cases h), s29⟩, rfl, b29⟩, trivial⟩
theorem ii3 : tb.cls[i3.c]? = some (i3.x, i3.fs) ∧ i3.fs ≠ [] ∧ i3.fs.length ≤ 900 ∧ initB i3.fs i3.body = true ∧ FnScope (("self" : PySem.Str) :: i3.fs) (("self" : PySem.Str) :: i3.fs) i3.scope ∧ (∀ x ∈ ("self" : PySem.Str) :: i3.fs, (x == ("__debug__" : PySem.Str)) = false ∧ (x == ("__classdict__" : PySem.Str)) = false) ∧ Bnd "__init__" i3.qual i3.params i3.body i3.scope (("self" : PySem.Str) :: i3.fs) := ⟨rfl, by decide, by decide, by decide +kernel, ⟨rfl, rfl, rfl, by decide +kernel, rfl, by decide +kernel, by decide +kernel⟩, by decide +kernel, fun _ _ _ _ _ _ us hl => match us, hl with | [_, _, _, _], _ => rfl⟩
theorem ii4 : tb.cls[i4.c]? = some (i4.x, i4.fs) ∧ i4.fs ≠ [] ∧ i4.fs.length ≤ 900 ∧ initB i4.fs i4.body = true ∧ FnScope (("self" : PySem.Str) :: i4.fs) (("self" : PySem.Str) :: i4.fs) i4.scope ∧ (∀ x ∈ ("self" : PySem.Str) :: i4.fs, (x == ("__debug__" : PySem.Str)) = false ∧ (x == ("__classdict__" : PySem.Str)) = false) ∧ Bnd "__init__" i4.qual i4.params i4.body i4.scope (("self" : PySem.Str) :: i4.fs) := ⟨rfl, by decide, by decide, by decide +kernel, ⟨rfl, rfl, rfl, by decide +kernel, rfl, by decide +kernel, by decide +kernel⟩, by decide +kernel, fun _ _ _ _ _ _ us hl => match us, hl with | [_, _, _], _ => rfl⟩
theorem ii5 : tb.cls[i5.c]? = some (i5.x, i5.fs) ∧ i5.fs ≠ [] ∧ i5.fs.length ≤ 900 ∧ initB i5.fs i5.body = true ∧ FnScope (("self" : PySem.Str) :: i5.fs) (("self" : PySem.Str) :: i5.fs) i5.scope ∧ (∀ x ∈ ("self" : PySem.Str) :: i5.fs, (x == ("__debug__" : PySem.Str)) = false ∧ (x == ("__classdict__" : PySem.Str)) = false) ∧ Bnd "__init__" i5.qual i5.params i5.body i5.scope (("self" : PySem.Str) :: i5.fs) := ⟨rfl, by decide, by decide, by decide +kernel, ⟨rfl, rfl, rfl, by decide +kernel, rfl, by decide +kernel, by decide +kernel⟩, by decide +kernel, fun _ _ _ _ _ _ us hl => match us, hl with | [_, _], _ => rfl⟩
theorem ii6 : tb.cls[i6.c]? = some (i6.x, i6.fs) ∧ i6.fs ≠ [] ∧ i6.fs.length ≤ 900 ∧ initB i6.fs i6.body = true ∧ FnScope (("self" : PySem.Str) :: i6.fs) (("self" : PySem.Str) :: i6.fs) i6.scope ∧ (∀ x ∈ ("self" : PySem.Str) :: i6.fs, (x == ("__debug__" : PySem.Str)) = false ∧ (x == ("__classdict__" : PySem.Str)) = false) ∧ Bnd "__init__" i6.qual i6.params i6.body i6.scope (("self" : PySem.Str) :: i6.fs) := ⟨rfl, by decide, by decide, by decide +kernel, ⟨rfl, rfl, rfl, by decide +kernel, rfl, by decide +kernel, by decide +kernel⟩, by decide +kernel, fun _ _ _ _ _ _ us hl => match us, hl with | [_, _], _ => rfl⟩
theorem ii7 : tb.cls[i7.c]? = some (i7.x, i7.fs) ∧ i7.fs ≠ [] ∧ i7.fs.length ≤ 900 ∧ initB i7.fs i7.body = true ∧ FnScope (("self" : PySem.Str) :: i7.fs) (("self" : PySem.Str) :: i7.fs) i7.scope ∧ (∀ x ∈ ("self" : PySem.Str) :: i7.fs, (x == ("__debug__" : PySem.Str)) = false ∧ (x == ("__classdict__" : PySem.Str)) = false) ∧ Bnd "__init__" i7.qual i7.params i7.body i7.scope (("self" : PySem.Str) :: i7.fs) := ⟨rfl, by decide, by decide, by decide +kernel, ⟨rfl, rfl, rfl, by decide +kernel, rfl, by decide +kernel, by decide +kernel⟩, by decide +kernel, fun _ _ _ _ _ _ us hl => match us, hl with | [_, _], _ => rfl⟩
theorem ii8 : tb.cls[i8.c]? = some (i8.x, i8.fs) ∧ i8.fs ≠ [] ∧ i8.fs.length ≤ 900 ∧ initB i8.fs i8.body = true ∧ FnScope (("self" : PySem.Str) :: i8.fs) (("self" : PySem.Str) :: i8.fs) i8.scope ∧ (∀ x ∈ ("self" : PySem.Str) :: i8.fs, (x == ("__debug__" : PySem.Str)) = false ∧ (x == ("__classdict__" : PySem.Str)) = false) ∧ Bnd "__init__" i8.qual i8.params i8.body i8.scope (("self" : PySem.Str) :: i8.fs) := ⟨rfl, by decide, by decide, by decide +kernel, ⟨rfl, rfl, rfl, by decide +kernel, rfl, by decide +kernel, by decide +kernel⟩, by decide +kernel, fun _ _ _ _ _ _ us hl => match us, hl with | [_, _], _ => rfl⟩
theorem ii12 : tb.cls[i12.c]? = some (i12.x, i12.fs) ∧ i12.fs ≠ [] ∧ i12.fs.length ≤ 900 ∧ initB i12.fs i12.body = true ∧ FnScope (("self" : PySem.Str) :: i12.fs) (("self" : PySem.Str) :: i12.fs) i12.scope ∧ (∀ x ∈ ("self" : PySem.Str) :: i12.fs, (x == ("__debug__" : PySem.Str)) = false ∧ (x == ("__classdict__" : PySem.Str)) = false) ∧ Bnd "__init__" i12.qual i12.params i12.body i12.scope (("self" : PySem.Str) :: i12.fs) := ⟨rfl, by decide, by decide, by decide +kernel, ⟨rfl, rfl, rfl, by decide +kernel, rfl, by decide +kernel, by decide +kernel⟩, by decide +kernel, fun _ _ _ _ _ _ us hl => match us, hl with | [_, _], _ => rfl⟩
theorem ii13 : tb.cls[i13.c]? = some (i13.x, i13.fs) ∧ i13.fs ≠ [] ∧ i13.fs.length ≤ 900 ∧ initB i13.fs i13.body = true ∧ FnScope (("self" : PySem.Str) :: i13.fs) (("self" : PySem.Str) :: i13.fs) i13.scope ∧ (∀ x ∈ ("self" : PySem.Str) :: i13.fs, (x == ("__debug__" : PySem.Str)) = false ∧ (x == ("__classdict__" : PySem.Str)) = false) ∧ Bnd "__init__" i13.qual i13.params i13.body i13.scope (("self" : PySem.Str) :: i13.fs) := ⟨rfl, by decide, by decide, by decide +kernel, ⟨rfl, rfl, rfl, by decide +kernel, rfl, by decide +kernel, by decide +kernel⟩, by decide +kernel, fun _ _ _ _ _ _ us hl => match us, hl with | [_, _], _ => rfl⟩
theorem ii16 : tb.cls[i16.c]? = some (i16.x, i16.fs) ∧ i16.fs ≠ [] ∧ i16.fs.length ≤ 900 ∧ initB i16.fs i16.body = true ∧ FnScope (("self" : PySem.Str) :: i16.fs) (("self" : PySem.Str) :: i16.fs) i16.scope ∧ (∀ x ∈ ("self" : PySem.Str) :: i16.fs, (x == ("__debug__" : PySem.Str)) = false ∧ (x == ("__classdict__" : PySem.Str)) = false) ∧ Bnd "__init__" i16.qual i16.params i16.body i16.scope (("self" : PySem.Str) :: i16.fs) := ⟨rfl, by decide, by decide, by decide +kernel, ⟨rfl, rfl, rfl, by decide +kernel, rfl, by decide +kernel, by decide +kernel⟩, by decide +kernel, fun _ _ _ _ _ _ us hl => match us, hl with | [_, _], _ => rfl⟩
theorem ii17 : tb.cls[i17.c]? = some (i17.x, i17.fs) ∧ i17.fs ≠ [] ∧ i17.fs.length ≤ 900 ∧ initB i17.fs i17.body = true ∧ FnScope (("self" : PySem.Str) :: i17.fs) (("self" : PySem.Str) :: i17.fs) i17.scope ∧ (∀ x ∈ ("self" : PySem.Str) :: i17.fs, (x == ("__debug__" : PySem.Str)) = false ∧ (x == ("__classdict__" : PySem.Str)) = false) ∧ Bnd "__init__" i17.qual i17.params i17.body i17.scope (("self" : PySem.Str) :: i17.fs) := ⟨rfl, by decide, by decide, by decide +kernel, ⟨rfl, rfl, rfl, by decide +kernel, rfl, by decide +kernel, by decide +kernel⟩, by decide +kernel, fun _ _ _ _ _ _ us hl => match us, hl with | [_, _], _ => rfl⟩
theorem ii18 : tb.cls[i18.c]? = some (i18.x, i18.fs) ∧ i18.fs ≠ [] ∧ i18.fs.length ≤ 900 ∧ initB i18.fs i18.body = true ∧ FnScope (("self" : PySem.Str) :: i18.fs) (("self" : PySem.Str) :: i18.fs) i18.scope ∧ (∀ x ∈ ("self" : PySem.Str) :: i18.fs, (x == ("__debug__" : PySem.Str)) = false ∧ (x == ("__classdict__" : PySem.Str)) = false) ∧ Bnd "__init__" i18.qual i18.params i18.body i18.scope (("self" : PySem.Str) :: i18.fs) := ⟨rfl, by decide, by decide, by decide +kernel, ⟨rfl, rfl, rfl, by decide +kernel, rfl, by decide +kernel, by decide +kernel⟩, by decide +kernel, fun _ _ _ _ _ _ us hl => match us, hl with | [_, _], _ => rfl⟩
theorem ii19 : tb.cls[i19.c]? = some (i19.x, i19.fs) ∧ i19.fs ≠ [] ∧ i19.fs.length ≤ 900 ∧ initB i19.fs i19.body = true ∧ FnScope (("self" : PySem.Str) :: i19.fs) (("self" : PySem.Str) :: i19.fs) i19.scope ∧ (∀ x ∈ ("self" : PySem.Str) :: i19.fs, (x == ("__debug__" : PySem.Str)) = false ∧ (x == ("__classdict__" : PySem.Str)) = false) ∧ Bnd "__init__" i19.qual i19.params i19.body i19.scope (("self" : PySem.Str) :: i19.fs) := ⟨rfl, by decide, by decide, by decide +kernel, ⟨rfl, rfl, rfl, by decide +kernel, rfl, by decide +kernel, by decide +kernel⟩, by decide +kernel, fun _ _ _ _ _ _ us hl => match us, hl with | [_, _, _], _ => rfl⟩
theorem inis : AllP (fun i => tb.cls[i.c]? = some (i.x, i.fs) ∧ i.fs ≠ [] ∧ i.fs.length ≤ 900 ∧ initB i.fs i.body = true ∧ FnScope (("self" : PySem.Str) :: i.fs) (("self" : PySem.Str) :: i.fs) i.scope ∧ (∀ x ∈ ("self" : PySem.Str) :: i.fs, (x == ("__debug__" : PySem.Str)) = false ∧ (x == ("__classdict__" : PySem.Str)) = false) ∧ Bnd "__init__" i.qual i.params i.body i.scope (("self" : PySem.Str) :: i.fs)) tb.ini := ⟨ii3, ii4, ii5, ii6, ii7, ii8, ii12, ii13, ii16, ii17, ii18, ii19, trivial⟩
theorem vlOk : AllP (fun v => ∀ x z, v = Vl.str x z → z.length ≤ SZ) tb.vls := ⟨(fun _ _ h => by cases h; decide +kernel), (fun _ _ h => by cases h), (fun _ _ h => by cases h), trivial⟩
theorem tbok : TbOk tb := ⟨fun i d h => dfs.get h, fun i h => inis.mem h, fun x z h => vlOk.mem h x z rfl⟩
end NB

set_option Elab.async false
set_option linter.all false
set_option maxRecDepth 100000
set_option maxHeartbeats 4000000
/-! Lw: what the laws' specs lean on, in plain Lean over Ev. -/
namespace NB

/-! ### rules, by proofs that simp keeps -/
theorem wpr {α : Type} {a : α} {S : Store} {Q : α → Store → Prop} {E : Nat → List D → Store → Prop} : Wp (ret a) S Q E = Q a S := id rfl
theorem wpe {α : Type} {S : Store} {Q : α → Store → Prop} {E : Nat → List D → Store → Prop} : Wp (err : M α) S Q E = False := id rfl
theorem bndr {α β : Type} {a : α} {k : α → M β} : bnd (ret a) k = k a := id rfl
theorem bnde {α β : Type} {k : α → M β} : bnd (err : M α) k = err := id rfl
/-! ### names -/
section
variable {a b c d e f g h i j x : Option D} {v : D} {r : Env}
theorem var0 : varE 0 (some v :: r) = ret v := id rfl
theorem var1 : varE 1 (a :: some v :: r) = ret v := id rfl
theorem var2 : varE 2 (a :: b :: some v :: r) = ret v := id rfl
theorem var3 : varE 3 (a :: b :: c :: some v :: r) = ret v := id rfl
theorem var4 : varE 4 (a :: b :: c :: d :: some v :: r) = ret v := id rfl
theorem var5 : varE 5 (a :: b :: c :: d :: e :: some v :: r) = ret v := id rfl
theorem var6 : varE 6 (a :: b :: c :: d :: e :: f :: some v :: r) = ret v := id rfl
theorem var7 : varE 7 (a :: b :: c :: d :: e :: f :: g :: some v :: r) = ret v := id rfl
theorem var8 : varE 8 (a :: b :: c :: d :: e :: f :: g :: h :: some v :: r) = ret v := id rfl
theorem var9 : varE 9 (a :: b :: c :: d :: e :: f :: g :: h :: i :: some v :: r) = ret v := id rfl
theorem set0 : nameG 0 v (x :: r) = bif isExc v then err else ret (some v :: r) := id rfl
theorem set1 : nameG 1 v (a :: x :: r) = bif isExc v then err else ret (a :: some v :: r) := id rfl
theorem set2 : nameG 2 v (a :: b :: x :: r) = bif isExc v then err else ret (a :: b :: some v :: r) := id rfl
theorem set3 : nameG 3 v (a :: b :: c :: x :: r) = bif isExc v then err else ret (a :: b :: c :: some v :: r) := id rfl
theorem set4 : nameG 4 v (a :: b :: c :: d :: x :: r) = bif isExc v then err else ret (a :: b :: c :: d :: some v :: r) := id rfl
theorem set5 : nameG 5 v (a :: b :: c :: d :: e :: x :: r) = bif isExc v then err else ret (a :: b :: c :: d :: e :: some v :: r) := id rfl
theorem set6 : nameG 6 v (a :: b :: c :: d :: e :: f :: x :: r) = bif isExc v then err else ret (a :: b :: c :: d :: e :: f :: some v :: r) := id rfl
theorem set7 : nameG 7 v (a :: b :: c :: d :: e :: f :: g :: x :: r) = bif isExc v then err else ret (a :: b :: c :: d :: e :: f :: g :: some v :: r) := id rfl
theorem set8 : nameG 8 v (a :: b :: c :: d :: e :: f :: g :: h :: x :: r) = bif isExc v then err else ret (a :: b :: c :: d :: e :: f :: g :: h :: some v :: r) := id rfl
theorem set9 : nameG 9 v (a :: b :: c :: d :: e :: f :: g :: h :: i :: x :: r) = bif isExc v then err else ret (a :: b :: c :: d :: e :: f :: g :: h :: i :: some v :: r) := id rfl
end
section
variable {a0 a1 a2 a3 a4 a5 a6 a7 a8 a9 a10 a11 a12 a13 a14 a15 a16 a17 a18 a19 x : Option D} {v : D} {r : Env}
theorem var10 : varE 10 (a0 :: a1 :: a2 :: a3 :: a4 :: a5 :: a6 :: a7 :: a8 :: a9 :: some v :: r) = ret v := id rfl
theorem set10 : nameG 10 v (a0 :: a1 :: a2 :: a3 :: a4 :: a5 :: a6 :: a7 :: a8 :: a9 :: x :: r) = bif isExc v then err else ret (a0 :: a1 :: a2 :: a3 :: a4 :: a5 :: a6 :: a7 :: a8 :: a9 :: some v :: r) := id rfl
theorem var11 : varE 11 (a0 :: a1 :: a2 :: a3 :: a4 :: a5 :: a6 :: a7 :: a8 :: a9 :: a10 :: some v :: r) = ret v := id rfl
theorem set11 : nameG 11 v (a0 :: a1 :: a2 :: a3 :: a4 :: a5 :: a6 :: a7 :: a8 :: a9 :: a10 :: x :: r) = bif isExc v then err else ret (a0 :: a1 :: a2 :: a3 :: a4 :: a5 :: a6 :: a7 :: a8 :: a9 :: a10 :: some v :: r) := id rfl
theorem var12 : varE 12 (a0 :: a1 :: a2 :: a3 :: a4 :: a5 :: a6 :: a7 :: a8 :: a9 :: a10 :: a11 :: some v :: r) = ret v := id rfl
theorem set12 : nameG 12 v (a0 :: a1 :: a2 :: a3 :: a4 :: a5 :: a6 :: a7 :: a8 :: a9 :: a10 :: a11 :: x :: r) = bif isExc v then err else ret (a0 :: a1 :: a2 :: a3 :: a4 :: a5 :: a6 :: a7 :: a8 :: a9 :: a10 :: a11 :: some v :: r) := id rfl
theorem var13 : varE 13 (a0 :: a1 :: a2 :: a3 :: a4 :: a5 :: a6 :: a7 :: a8 :: a9 :: a10 :: a11 :: a12 :: some v :: r) = ret v := id rfl
theorem set13 : nameG 13 v (a0 :: a1 :: a2 :: a3 :: a4 :: a5 :: a6 :: a7 :: a8 :: a9 :: a10 :: a11 :: a12 :: x :: r) = bif isExc v then err else ret (a0 :: a1 :: a2 :: a3 :: a4 :: a5 :: a6 :: a7 :: a8 :: a9 :: a10 :: a11 :: a12 :: some v :: r) := id rfl
theorem var14 : varE 14 (a0 :: a1 :: a2 :: a3 :: a4 :: a5 :: a6 :: a7 :: a8 :: a9 :: a10 :: a11 :: a12 :: a13 :: some v :: r) = ret v := id rfl
theorem set14 : nameG 14 v (a0 :: a1 :: a2 :: a3 :: a4 :: a5 :: a6 :: a7 :: a8 :: a9 :: a10 :: a11 :: a12 :: a13 :: x :: r) = bif isExc v then err else ret (a0 :: a1 :: a2 :: a3 :: a4 :: a5 :: a6 :: a7 :: a8 :: a9 :: a10 :: a11 :: a12 :: a13 :: some v :: r) := id rfl
theorem var15 : varE 15 (a0 :: a1 :: a2 :: a3 :: a4 :: a5 :: a6 :: a7 :: a8 :: a9 :: a10 :: a11 :: a12 :: a13 :: a14 :: some v :: r) = ret v := id rfl
theorem set15 : nameG 15 v (a0 :: a1 :: a2 :: a3 :: a4 :: a5 :: a6 :: a7 :: a8 :: a9 :: a10 :: a11 :: a12 :: a13 :: a14 :: x :: r) = bif isExc v then err else ret (a0 :: a1 :: a2 :: a3 :: a4 :: a5 :: a6 :: a7 :: a8 :: a9 :: a10 :: a11 :: a12 :: a13 :: a14 :: some v :: r) := id rfl
theorem var16 : varE 16 (a0 :: a1 :: a2 :: a3 :: a4 :: a5 :: a6 :: a7 :: a8 :: a9 :: a10 :: a11 :: a12 :: a13 :: a14 :: a15 :: some v :: r) = ret v := id rfl
theorem set16 : nameG 16 v (a0 :: a1 :: a2 :: a3 :: a4 :: a5 :: a6 :: a7 :: a8 :: a9 :: a10 :: a11 :: a12 :: a13 :: a14 :: a15 :: x :: r) = bif isExc v then err else ret (a0 :: a1 :: a2 :: a3 :: a4 :: a5 :: a6 :: a7 :: a8 :: a9 :: a10 :: a11 :: a12 :: a13 :: a14 :: a15 :: some v :: r) := id rfl
theorem var17 : varE 17 (a0 :: a1 :: a2 :: a3 :: a4 :: a5 :: a6 :: a7 :: a8 :: a9 :: a10 :: a11 :: a12 :: a13 :: a14 :: a15 :: a16 :: some v :: r) = ret v := id rfl
theorem set17 : nameG 17 v (a0 :: a1 :: a2 :: a3 :: a4 :: a5 :: a6 :: a7 :: a8 :: a9 :: a10 :: a11 :: a12 :: a13 :: a14 :: a15 :: a16 :: x :: r) = bif isExc v then err else ret (a0 :: a1 :: a2 :: a3 :: a4 :: a5 :: a6 :: a7 :: a8 :: a9 :: a10 :: a11 :: a12 :: a13 :: a14 :: a15 :: a16 :: some v :: r) := id rfl
theorem var18 : varE 18 (a0 :: a1 :: a2 :: a3 :: a4 :: a5 :: a6 :: a7 :: a8 :: a9 :: a10 :: a11 :: a12 :: a13 :: a14 :: a15 :: a16 :: a17 :: some v :: r) = ret v := id rfl
theorem set18 : nameG 18 v (a0 :: a1 :: a2 :: a3 :: a4 :: a5 :: a6 :: a7 :: a8 :: a9 :: a10 :: a11 :: a12 :: a13 :: a14 :: a15 :: a16 :: a17 :: x :: r) = bif isExc v then err else ret (a0 :: a1 :: a2 :: a3 :: a4 :: a5 :: a6 :: a7 :: a8 :: a9 :: a10 :: a11 :: a12 :: a13 :: a14 :: a15 :: a16 :: a17 :: some v :: r) := id rfl
theorem var19 : varE 19 (a0 :: a1 :: a2 :: a3 :: a4 :: a5 :: a6 :: a7 :: a8 :: a9 :: a10 :: a11 :: a12 :: a13 :: a14 :: a15 :: a16 :: a17 :: a18 :: some v :: r) = ret v := id rfl
theorem set19 : nameG 19 v (a0 :: a1 :: a2 :: a3 :: a4 :: a5 :: a6 :: a7 :: a8 :: a9 :: a10 :: a11 :: a12 :: a13 :: a14 :: a15 :: a16 :: a17 :: a18 :: x :: r) = bif isExc v then err else ret (a0 :: a1 :: a2 :: a3 :: a4 :: a5 :: a6 :: a7 :: a8 :: a9 :: a10 :: a11 :: a12 :: a13 :: a14 :: a15 :: a16 :: a17 :: a18 :: some v :: r) := id rfl
end
/-! ### operators on known kinds -/
theorem add_ii {i j : Int} : addD (.int i) (.int j) = ret (.int (i + j)) := id rfl
theorem sub_ii {i j : Int} : subD (.int i) (.int j) = ret (.int (i - j)) := id rfl
theorem mul_ii {i j : Int} : mulD (.int i) (.int j) = bif mulOk i j then ret (.int (i * j)) else err := id rfl
theorem fdiv_ii {i j : Int} : fdivD (.int i) (.int j) = bif divOk i j then ret (.int (i / j)) else err := id rfl
theorem mod_ii {i j : Int} : modD (.int i) (.int j) = bif decide (0 < j) then ret (.int (i % j)) else err := id rfl
theorem pow_ii {i j : Int} : powD (.int i) (.int j) = bif decide (0 ≤ j) && decide (j ≤ 1000000) && decide (i.natAbs < 2 ^ 64) then ret (.int (i ^ j.toNat)) else err := id rfl
theorem eq_ii {i j : Int} : eqD (.int i) (.int j) = ret (.bl (decide (i = j))) := id rfl
theorem ne_ii {i j : Int} : neD (.int i) (.int j) = ret (.bl (!decide (i = j))) := id rfl
theorem lt_ii {i j : Int} : ltD (.int i) (.int j) = ret (.bl (decide (i < j))) := id rfl
theorem le_ii {i j : Int} : leD (.int i) (.int j) = ret (.bl (decide (i ≤ j))) := id rfl
theorem gt_ii {i j : Int} : gtD (.int i) (.int j) = ret (.bl (decide (j < i))) := id rfl
theorem ge_ii {i j : Int} : geD (.int i) (.int j) = ret (.bl (decide (j ≤ i))) := id rfl
theorem add_ss {a b : List Nat} : addD (.str a) (.str b) = bif decide (a.length + b.length ≤ SZ) then ret (.str (a ++ b)) else err := id rfl
theorem add_tt {a b : List D} : addD (.tup a) (.tup b) = bif decide (a.length + b.length ≤ SZ) then ret (.tup (a ++ b)) else err := id rfl
theorem mul_si {a : List Nat} {j : Int} : mulD (.str a) (.int j) = bif decide (-(2 ^ 63) ≤ j) && decide (j < 2 ^ 63) && decide (a.length * j.toNat ≤ SZ) then ret (.str (List.replicate j.toNat a).flatten) else err := id rfl
theorem eq_ss {a b : List Nat} : eqD (.str a) (.str b) = ret (.bl (decide (a = b))) := id rfl
theorem ne_ss {a b : List Nat} : neD (.str a) (.str b) = ret (.bl (!decide (a = b))) := id rfl
theorem eq_bb {a b : Bool} : eqD (.bl a) (.bl b) = ret (.bl (decide (a = b))) := id rfl
theorem neg_i {i : Int} : negD (.int i) = ret (.int (-i)) := id rfl
theorem abs_i {i : Int} : absD (.int i) = ret (.int (if i < 0 then -i else i)) := id rfl
theorem int_i {i : Int} : intD (.int i) = ret (.int i) := id rfl
theorem int_s {s : List Nat} : intD (.str s) = bif isDg s && decide (0 < s.length) && decide (s.length ≤ 640) then ret (.int (dgV s)) else err := id rfl
theorem int_b {b : Bool} : intD (.bl b) = ret (.int (if b then 1 else 0)) := id rfl
theorem len_s {s : List Nat} : lenD (.str s) = ret (.int s.length) := id rfl
theorem len_t {s : List D} : lenD (.tup s) = ret (.int s.length) := id rfl
theorem len_k {s : List D} : lenD (.kl s) = ret (.int s.length) := id rfl
theorem max_ii {i j : Int} : maxD [.int i, .int j] = ret (.int (if j > i then j else i)) := id rfl
theorem min_ii {i j : Int} : minD [.int i, .int j] = ret (.int (if j < i then j else i)) := id rfl
theorem tr_b {b : Bool} : truth (.bl b) = ret b := id rfl
theorem tr_i {i : Int} : truth (.int i) = ret (i != 0) := id rfl
theorem tr_s {s : List Nat} : truth (.str s) = ret (!s.isEmpty) := id rfl
theorem tr_n : truth .non = ret false := id rfl
theorem ie_i {i : Int} : isExc (.int i) = false := id rfl
theorem is_i {i : Int} : isD (.int i) .non = ret (.bl false) := id rfl
theorem isnt_i {i : Int} : isntD (.int i) .non = ret (.bl true) := id rfl
theorem ie_s {s : List Nat} : isExc (.str s) = false := id rfl
theorem is_s {s : List Nat} : isD (.str s) .non = ret (.bl false) := id rfl
theorem isnt_s {s : List Nat} : isntD (.str s) .non = ret (.bl true) := id rfl
theorem ie_b {b : Bool} : isExc (.bl b) = false := id rfl
theorem is_b {b : Bool} : isD (.bl b) .non = ret (.bl false) := id rfl
theorem isnt_b {b : Bool} : isntD (.bl b) .non = ret (.bl true) := id rfl
theorem ie_t {t : List D} : isExc (.tup t) = false := id rfl
theorem is_t {t : List D} : isD (.tup t) .non = ret (.bl false) := id rfl
theorem isnt_t {t : List D} : isntD (.tup t) .non = ret (.bl true) := id rfl
theorem ie_l {n : Nat} : isExc (.loc n) = false := id rfl
theorem is_l {n : Nat} : isD (.loc n) .non = ret (.bl false) := id rfl
theorem isnt_l {n : Nat} : isntD (.loc n) .non = ret (.bl true) := id rfl
theorem ie_k {t : List D} : isExc (.kl t) = false := id rfl
theorem is_k {t : List D} : isD (.kl t) .non = ret (.bl false) := id rfl
theorem isnt_k {t : List D} : isntD (.kl t) .non = ret (.bl true) := id rfl
theorem ie_n : isExc .non = false := id rfl
theorem is_n : isD .non .non = ret (.bl true) := id rfl
theorem isnt_n : isntD .non .non = ret (.bl false) := id rfl
theorem ie_e {c : Nat} {fs : List D} : isExc (.exc c fs) = true := id rfl
theorem in_ss {a b : List Nat} : inD (.str a) (.str b) = bnd (ret (infixB a b)) fun b => ret (.bl b) := id rfl
theorem nin_ss {a b : List Nat} : ninD (.str a) (.str b) = bnd (ret (infixB a b)) fun b => ret (.bl (!b)) := id rfl
theorem sub_si {s : List Nat} {i : Int} : subsD (.str s) (.int i) = bnd (atL s i) fun c => ret (.str [c]) := id rfl
theorem sub_ti {s : List D} {i : Int} : subsD (.tup s) (.int i) = atL s i := id rfl
theorem kst {s : List Nat} : strK (.str s) = ret () := id rfl
theorem end_rt {d : D} : endF (.rt d) = ret d := id rfl
theorem end_nx {δ : Env} : endF (.nx δ) = ret .non := id rfl
theorem slc_s1 {s : List Nat} {i : Int} : sliceD (.str s) (some (.int i)) none = ret (.str (cutL s (some i) none)) := id rfl
theorem slc_s2 {s : List Nat} {i : Int} : sliceD (.str s) none (some (.int i)) = ret (.str (cutL s none (some i))) := id rfl
theorem slc_s3 {s : List Nat} {i j : Int} : sliceD (.str s) (some (.int i)) (some (.int j)) = ret (.str (cutL s (some i) (some j))) := id rfl
theorem slc_t1 {s : List D} {i : Int} : sliceD (.tup s) (some (.int i)) none = ret (.tup (cutL s (some i) none)) := id rfl
theorem slc_t2 {s : List D} {i : Int} : sliceD (.tup s) none (some (.int i)) = ret (.tup (cutL s none (some i))) := id rfl
theorem slc_t3 {s : List D} {i j : Int} : sliceD (.tup s) (some (.int i)) (some (.int j)) = ret (.tup (cutL s (some i) (some j))) := id rfl
theorem slc_l1 {n : Nat} {i : Int} : sliceD (.loc n) (some (.int i)) none = bnd (listAt n) fun xs => newL (cutL xs (some i) none) := id rfl
theorem slc_l2 {n : Nat} {i : Int} : sliceD (.loc n) none (some (.int i)) = bnd (listAt n) fun xs => newL (cutL xs none (some i)) := id rfl
theorem slc_l3 {n : Nat} {i j : Int} : sliceD (.loc n) (some (.int i)) (some (.int j)) = bnd (listAt n) fun xs => newL (cutL xs (some i) (some j)) := id rfl
theorem chk_i {i : Int} : chkI (.int i) = ret (.int i) := id rfl
theorem cutL_lt {α : Type} {s : List α} {lo hi : Option Int} : (cutL s lo hi).length ≤ s.length := by
  unfold cutL
  rw [List.length_take, List.length_drop]
  omega
/-- s[:i] ++ s[i:] -/
theorem cutL_two {α : Type} {s : List α} {i : Int} (h0 : 0 ≤ i) : cutL s none (some i) = s.take i.toNat ∧ cutL s (some i) none = s.drop i.toNat := by
  unfold cutL cutAt
  have e : ¬ i < 0 := by omega
  simp only [e, if_false, List.drop_zero, Nat.sub_zero]
  constructor
  · by_cases h : i.toNat ≤ s.length
    · rw [Nat.min_eq_left h]
    · rw [Nat.min_eq_right (by omega), List.take_of_length_le (Nat.le_refl _), List.take_of_length_le (by omega)]
  · rw [List.take_of_length_le (by rw [List.length_drop]; omega)]
    by_cases h : i.toNat ≤ s.length
    · rw [Nat.min_eq_left h]
    · rw [Nat.min_eq_right (by omega), List.drop_eq_nil_of_le (Nat.le_refl _), List.drop_eq_nil_of_le (by omega)]
/-! ### the loop -/
section
variable {S : Store} {E : Nat → List D → Store → Prop} {α β : Type}
theorem wp_forGo {I : It} {g : TG} {b : SS} {Q : Fl → Store → Prop} {n : Nat} (Inv : Nat → Env → Store → Prop)
    (hs : ∀ i δ S, i < n → Inv i δ S → Wp (I.get i) S (fun d S1 => Wp (g d δ) S1 (fun δ1 S2 => Wp (b δ1) S2 (fun f S3 => match f with
      | .nx δ2 => Inv (i + 1) δ2 S3
      | .ct δ2 => Inv (i + 1) δ2 S3
      | .bk δ2 => Q (.nx δ2) S3
      | .rt d => Q (.rt d) S3) E) E) E)
    (hd : ∀ δ S, Inv n δ S → Wp I.fin S (fun _ S' => Q (.nx δ) S') E) : ∀ (k i : Nat) (δ : Env) (S : Store), i + k = n → Inv i δ S → Wp (forGo I g b k i δ) S Q E
  | 0, i, δ, S, e, h => by
    have e : i = n := by omega
    subst e
    show Wp (bnd I.fin fun _ => ret (.nx δ)) S Q E
    rw [wp_bnd]
    exact hd δ S h
  | k + 1, i, δ, S, e, h => by
    show Wp (bnd (I.get i) fun d => bnd (g d δ) fun δ1 => bnd (b δ1) fun f => match f with
      | .nx δ2 => forGo I g b k (i + 1) δ2
      | .ct δ2 => forGo I g b k (i + 1) δ2
      | .bk δ2 => ret (.nx δ2)
      | .rt d => ret (.rt d)) S Q E
    rw [wp_bnd]
    refine wp_mono (hs i δ S (by omega) h) (fun d S1 h1 => ?_) fun _ _ _ z => z
    rw [wp_bnd]
    refine wp_mono h1 (fun δ1 S2 h2 => ?_) fun _ _ _ z => z
    rw [wp_bnd]
    refine wp_mono h2 (fun f S3 h3 => ?_) fun _ _ _ z => z
    cases f with
    | nx δ2 => exact wp_forGo Inv hs hd k (i + 1) δ2 S3 (by omega) h3
    | ct δ2 => exact wp_forGo Inv hs hd k (i + 1) δ2 S3 (by omega) h3
    | bk δ2 => exact h3
    | rt d => exact h3
theorem wp_collect {I : It} {m n : Nat} {g : TG} {c : TT} {e : EE} {δ : Env} {Q : Unit → Store → Prop} (Inv : Nat → Store → Prop)
    (hs : ∀ i S, i < n → Inv i S → Wp (I.get i) S (fun d S1 => Wp (g d δ) S1 (fun δ1 S2 => Wp (c δ1) S2 (fun b S3 => bif b then Wp (e δ1) S3 (fun y S4 => Wp (pushL m y) S4 (fun _ S5 => Inv (i + 1) S5) E) E else Inv (i + 1) S3) E) E) E)
    (hd : ∀ S, Inv n S → Wp I.fin S Q E) : ∀ (k i : Nat) (S : Store), i + k = n → Inv i S → Wp (collect I m g c e δ k i) S Q E
  | 0, i, S, h0, h => by
    have h0 : i = n := by omega
    subst h0
    exact hd S h
  | k + 1, i, S, h0, h => by
    show Wp (bnd (I.get i) fun d => bnd (g d δ) fun δ1 => bnd (c δ1) fun b => bif b then bnd (e δ1) fun y => bnd (pushL m y) fun _ => collect I m g c e δ k (i + 1) else collect I m g c e δ k (i + 1)) S Q E
    rw [wp_bnd]
    refine wp_mono (hs i S (by omega) h) (fun d S1 h1 => ?_) fun _ _ _ z => z
    rw [wp_bnd]
    refine wp_mono h1 (fun δ1 S2 h2 => ?_) fun _ _ _ z => z
    rw [wp_bnd]
    refine wp_mono h2 (fun b S3 h3 => ?_) fun _ _ _ z => z
    cases b with
    | false => exact wp_collect Inv hs hd k (i + 1) S3 (by omega) h3
    | true =>
      show Wp (bnd (e δ1) _) S3 Q E
      rw [wp_bnd]
      refine wp_mono h3 (fun y S4 h4 => ?_) fun _ _ _ z => z
      rw [wp_bnd]
      exact wp_mono h4 (fun _ S5 h5 => wp_collect Inv hs hd k (i + 1) S5 (by omega) h5) fun _ _ _ z => z
theorem wp_calm_of {m : M α} {Q : α → Store → Prop} (h : Wp m S Q fun _ _ _ => False) : Wp (calm m) S Q E := by
  unfold Wp calm
  unfold Wp at h
  cases q : m S with
  | ok a S' => rw [q] at h; exact h
  | exc c f S' => rw [q] at h; exact h.elim
  | bad => rw [q] at h; exact h.elim
/-- a comprehension -/
theorem wp_comp {own : List Nat} {it : II} {g : TG} {c : TT} {e : EE} {δ : Env} {Q : D → Store → Prop}
    (h : Wp (it δ) S (fun I S0 => Wp (collect I S0.length g c e (forget δ own) I.n 0) (S0 ++ [.lst true []]) (fun _ S' => Q (.loc S0.length) S') fun _ _ _ => False) E) : Wp (compE own it g c e δ) S Q E := by
  show Wp (bnd (it δ) fun I S => bnd (calm (collect I S.length g c e (forget δ own) I.n 0)) (fun _ => ret (.loc S.length)) (S ++ [.lst true []])) S Q E
  rw [wp_bnd]
  refine wp_mono h (fun I S0 h0 => ?_) fun _ _ _ z => z
  show Wp (bnd (calm (collect I S0.length g c e (forget δ own) I.n 0)) (fun _ => ret (.loc S0.length))) (S0 ++ [.lst true []]) Q E
  rw [wp_bnd]
  exact wp_calm_of h0
/-- a try -/
theorem wp_try {vs : List Nat} {b : SS} {cls i : Nat} {h : SS} {δ : Env} {Q : Fl → Store → Prop} (hb : Wp (b δ) S Q fun c fs S1 => subC c cls = true ∧ Wp (h ((forget δ vs).set i (some (.exc c fs)))) S1 (fun f S2 => match f with
      | .nx δ' => (δ'.set i none).all noExcO = true ∧ Q (.nx (δ'.set i none)) S2
      | .bk δ' => (δ'.set i none).all noExcO = true ∧ Q (.bk (δ'.set i none)) S2
      | .ct δ' => (δ'.set i none).all noExcO = true ∧ Q (.ct (δ'.set i none)) S2
      | .rt d => Q (.rt d) S2) fun _ _ _ => False) : Wp (tryS vs b cls i h δ) S Q E := by
  unfold Wp at hb
  unfold Wp tryS
  cases q : b δ S with
  | ok f S1 => rw [q] at hb; exact hb
  | bad => rw [q] at hb; exact hb
  | exc c fs S1 =>
    rw [q] at hb
    obtain ⟨h1, h2⟩ := hb
    dsimp only
    rw [h1]
    show Wp (bnd (calm (h ((forget δ vs).set i (some (.exc c fs))))) _) S1 Q E
    rw [wp_bnd]
    refine wp_calm_of (wp_mono h2 (fun f S2 z => ?_) fun _ _ _ z => z)
    cases f with
    | nx δ' => show Wp (bif _ then ret _ else err) S2 Q _; rw [wp_chk]; exact z
    | bk δ' => show Wp (bif _ then ret _ else err) S2 Q _; rw [wp_chk]; exact z
    | ct δ' => show Wp (bif _ then ret _ else err) S2 Q _; rw [wp_chk]; exact z
    | rt d => exact z
end
/-! ### plain data: what same compares -/
inductive PD where
  | non | bl (b : Bool) | int (i : Int) | str (s : List Nat) | tup (xs : List PD) | lst (xs : List PD)
mutual
def isP (S : Store) : PD → D → Prop
  | .non, d => d = .non
  | .bl b, d => d = .bl b
  | .int i, d => d = .int i
  | .str s, d => d = .str s
  | .tup ps, d => ∃ xs, d = .tup xs ∧ isPs S ps xs ∧ xs.length ≤ SZ
  | .lst ps, d => ∃ n w xs, d = .loc n ∧ S[n]? = some (.lst w xs) ∧ isPs S ps xs ∧ xs.length ≤ SZ
def isPs (S : Store) : List PD → List D → Prop
  | [], ds => ds = []
  | p :: ps, ds => ∃ d r, ds = d :: r ∧ isP S p d ∧ isPs S ps r
end
theorem isPs_len {S : Store} : ∀ {ps : List PD} {ds : List D}, isPs S ps ds → ds.length = ps.length
  | [], _, h => by unfold isPs at h; rw [h]; rfl
  | p :: ps, ds, h => by
    unfold isPs at h
    obtain ⟨d, r, e, _, h2⟩ := h
    rw [e, List.length_cons, List.length_cons, isPs_len h2]
theorem isPs_strs {S : Store} : ∀ (ws : List (List Nat)), isPs S (ws.map .str) (ws.map .str)
  | [] => by simp [isPs]
  | w :: r => by
    rw [List.map_cons, List.map_cons]
    unfold isPs
    exact ⟨_, _, rfl, by simp [isP], isPs_strs r⟩
theorem isPs_1 {S : Store} {p : PD} {d : D} (h : isP S p d) : isPs S [p] [d] := by
  unfold isPs
  exact ⟨_, _, rfl, h, by unfold isPs; rfl⟩
theorem isPs_2 {S : Store} {p : PD} {d : D} {ps : List PD} {ds : List D} (h : isP S p d) (t : isPs S ps ds) : isPs S (p :: ps) (d :: ds) := by
  unfold isPs
  exact ⟨_, _, rfl, h, t⟩
theorem isP_s {S : Store} {s : List Nat} : isP S (.str s) (.str s) := by unfold isP; rfl
theorem isP_i {S : Store} {s : Int} : isP S (.int s) (.int s) := by unfold isP; rfl
theorem isP_b {S : Store} {s : Bool} : isP S (.bl s) (.bl s) := by unfold isP; rfl
theorem isP_n {S : Store} : isP S .non .non := by unfold isP; rfl
theorem isP_t {S : Store} {ps : List PD} {ds : List D} (h : isPs S ps ds) (hz : ds.length ≤ 16777216) : isP S (.tup ps) (.tup ds) := by
  unfold isP
  exact ⟨_, rfl, h, hz⟩
theorem isP_l {S : Store} {ps : List PD} {ds : List D} {n : Nat} {w : Bool} (h : isPs S ps ds) (hn : S[n]? = some (.lst w ds)) (hz : ds.length ≤ 16777216) : isP S (.lst ps) (.loc n) := by
  unfold isP
  exact ⟨n, w, ds, rfl, hn, h, hz⟩
mutual
def PD.depth : PD → Nat
  | .tup ps => PD.depths ps + 1
  | .lst ps => PD.depths ps + 1
  | _ => 0
def PD.depths : List PD → Nat
  | [] => 0
  | p :: ps => max p.depth (PD.depths ps)
end
theorem depths_strs : ∀ (ws : List (List Nat)), PD.depths (ws.map .str) = 0
  | [] => rfl
  | w :: r => by rw [List.map_cons]; unfold PD.depths; rw [depths_strs r]; rfl
/-! ### one step -/
section
variable {S : Store} {E : Nat → List D → Store → Prop}
theorem wp_seq {a b : SS} {δ : Env} {Q : Fl → Store → Prop} (h : Wp (a δ) S (fun f S' => match f with
    | .nx δ' => Wp (b δ') S' Q E
    | f => Q f S') E) : Wp (seqS a b δ) S Q E := by
  show Wp (bnd (a δ) _) S Q E
  rw [wp_bnd]
  refine wp_mono h (fun f S' q => ?_) fun _ _ _ z => z
  cases f <;> exact q
/-- the body of a def -/
theorem wp_def {m : M Fl} {Q : D → Store → Prop} (h : Wp m S (fun f S' => match f with
    | .rt d => Q d S'
    | .nx _ => Q .non S'
    | _ => False) E) : Wp (bnd m endF) S Q E := by
  rw [wp_bnd]
  refine wp_mono h (fun f S' q => ?_) fun _ _ _ z => z
  cases f <;> exact q
theorem wp_ite {t : TT} {a b : SS} {δ : Env} {Q : Fl → Store → Prop} (h : Wp (t δ) S (fun c S' => (c = true → Wp (a δ) S' Q E) ∧ (c = false → Wp (b δ) S' Q E)) E) : Wp (iteS t a b δ) S Q E := by
  show Wp (bnd (t δ) _) S Q E
  rw [wp_bnd]
  refine wp_mono h (fun c S' q => ?_) fun _ _ _ z => z
  cases c with
  | true => exact q.1 rfl
  | false => exact q.2 rfl
end
/-! ### the law's own store of numbers -/
/-- what stands elsewhere stands on -/
def Ex (L : Nat) (S S' : Store) : Prop := ∀ j o, j ≠ L → S[j]? = some o → S'[j]? = some o
theorem Ex.refl {L : Nat} {S : Store} : Ex L S S := fun _ _ _ h => h
theorem Ex.trans {L : Nat} {S S1 S2 : Store} (a : Ex L S S1) (b : Ex L S1 S2) : Ex L S S2 := fun j o h e => b j o h (a j o h e)
theorem Ex.set {L : Nat} {S : Store} {o : Ob} : Ex L S (S.set L o) := fun j _ h e => by rw [List.getElem?_set_ne (Ne.symm h)]; exact e
theorem Ex.app {L : Nat} {S : Store} {r : List Ob} : Ex L S (S ++ r) := fun j o _ e => by
  rw [List.getElem?_append_left (List.getElem?_eq_some_iff.mp e).1]; exact e
def IL (S : Store) (L n : Nat) (z : List Int) : Prop := S[L]? = some (.lst true (z.map .int)) ∧ z.length = n ∧ n ≤ 200
theorem noExc_ints (z : List Int) : noExc (z.map .int) = true := by
  unfold noExc
  rw [List.all_map]
  exact List.all_eq_true.mpr fun _ _ => rfl
section
variable {S : Store} {L n : Nat} {z : List Int} {E : Nat → List D → Store → Prop}
theorem IL.lt (h : IL S L n z) : L < S.length := (List.getElem?_eq_some_iff.mp h.1).1
theorem IL.getN (h : IL S L n z) {k : Nat} {i : Int} (hi : i = k) (hk : k < n) {Q : D → Store → Prop} : Wp (subsD (.loc L) (.int i)) S Q E = Q (.int (z.getD k 0)) S := by
  subst hi
  have hk : k < z.length := by rw [h.2.1]; exact hk
  show Wp (bnd (listAt L) fun xs => atL xs k) S Q E = _
  rw [wp_bnd, wp_listAt]
  have e : atL (z.map D.int) (k : Int) = (ret (.int (z.getD k 0)) : M D) := by
    unfold atL ixOf
    rw [if_pos (by omega), List.length_map, if_pos (by omega)]
    dsimp only
    rw [Int.toNat_natCast, List.getElem?_map, List.getElem?_eq_getElem hk]
    simp [List.getD_eq_getElem?_getD, hk]
  refine propext ⟨fun ⟨w, xs, e1, q⟩ => ?_, fun q => ⟨true, _, h.1, ?_⟩⟩
  · rw [h.1] at e1
    cases e1
    rw [e] at q
    exact q
  · rw [e]
    exact q
/-- the cell at i -/
theorem IL.get (h : IL S L n z) (i : Int) (h0 : 0 ≤ i ∧ i.toNat < n) {Q : D → Store → Prop} : Wp (subsD (.loc L) (.int i)) S Q E = Q (.int (z.getD i.toNat 0)) S := h.getN (by omega) h0.2
theorem IL.len (h : IL S L n z) {Q : D → Store → Prop} : Wp (lenD (.loc L)) S Q E = Q (.int n) S := by
  unfold Wp lenD
  dsimp only
  rw [h.1]
  simp [h.2.1]
/-- a cell is written -/
theorem IL.put (h : IL S L n z) (i : Int) (h0 : 0 ≤ i ∧ i.toNat < n) {v : Int} {Q : Unit → Store → Prop} : Wp (setItemD (.loc L) (.int i) (.int v)) S Q E = Q () (S.set L (.lst true ((z.set i.toNat v).map .int))) := by
  have hk : i.toNat < z.length := by rw [h.2.1]; exact h0.2
  show Wp (bnd (listW L) fun xs => (match ixOf i xs.length with
    | some k => putL L (xs.set k (.int v))
    | none => err)) S Q E = _
  rw [wp_bnd, wp_listW]
  have e : ixOf i (z.map D.int).length = some i.toNat := by
    unfold ixOf
    rw [if_pos h0.1, List.length_map, if_pos (by omega)]
  have e2 : (z.map D.int).set i.toNat (.int v) = (z.set i.toNat v).map .int := by rw [List.map_set]
  have hz : ((z.set i.toNat v).map D.int).length ≤ SZ := by
    rw [List.length_map, List.length_set, h.2.1]
    exact Nat.le_trans h.2.2 (by decide)
  refine propext ⟨fun ⟨xs, e1, q⟩ => ?_, fun q => ⟨_, h.1, ?_⟩⟩
  · rw [h.1] at e1
    cases e1
    rw [e] at q
    dsimp only at q
    rw [e2, wp_putL] at q
    obtain ⟨_, _, _, _, q⟩ := q
    exact q
  · rw [e]
    dsimp only
    rw [e2, wp_putL]
    exact ⟨_, h.1, noExc_ints _, hz, q⟩
theorem IL.upd (h : IL S L n z) (k : Nat) (v : Int) : IL (S.set L (.lst true ((z.set k v).map .int))) L n (z.set k v) := ⟨List.getElem?_set_self h.lt, by rw [List.length_set]; exact h.2.1, h.2.2⟩
end
/-- the law's store, n cells -/
def StO (L n : Nat) (S : Store) : Prop := ∃ z, IL S L n z ∧ 5 ≤ n ∧ 0 ≤ z.getD 0 0
theorem getD_set {z : List Int} {k j : Nat} {v : Int} : (z.set k v).getD j 0 = if k = j ∧ k < z.length then v else z.getD j 0 := by
  rw [List.getD_eq_getElem?_getD, List.getD_eq_getElem?_getD]
  by_cases h : k = j
  · subst h
    by_cases hk : k < z.length
    · rw [List.getElem?_set_self hk, if_pos ⟨rfl, hk⟩] <;> rfl
    · rw [if_neg (fun z => hk z.2), List.getElem?_eq_none (by simp; omega), List.getElem?_eq_none (by omega)]
  · rw [List.getElem?_set_ne h, if_neg (fun z => h z.1)]
theorem set_set {S : Store} {L : Nat} {a b : Ob} : (S.set L a).set L b = S.set L b := List.set_set ..
/-- a number from 0 on, below m (m at least 2) -/
def Rnd (m : Int) (r : D) : Prop := ∃ k : Int, r = .int k ∧ 0 ≤ k ∧ (2 ≤ m → k < m) ∧ (m < 2 → k = 0)
theorem mulOk_r {i j : Int} (h : j.natAbs < 2 ^ 64) : mulOk i j = true := by
  unfold mulOk
  rw [decide_eq_true h]
  simp
theorem mulOk_l {i j : Int} (h : i.natAbs < 2 ^ 64) : mulOk i j = true := by
  unfold mulOk
  rw [decide_eq_true h]
  simp
theorem divOk_s {i j : Int} (h0 : 0 < j) (h : j < 2 ^ 63) : divOk i j = true := by
  unfold divOk
  have e : j.natAbs.log2 < 9000 := by
    have h1 : j.natAbs < 2 ^ 63 := by omega
    have h2 : j.natAbs.log2 < 63 := (Nat.log2_lt (by omega)).mpr h1
    omega
  rw [decide_eq_true h0, decide_eq_true e]
  rfl
/-! ### kinds -/
section
variable {S : Store} {E : Nat → List D → Store → Prop}
theorem wp_isi {ks : List Kd} {d : D} {Q : D → Store → Prop} : Wp (isiD ks d) S Q E = Q (.bl (ks.any fun k => isK S d k)) S := id rfl
theorem isK_loc {n : Nat} {w : Bool} {xs : List D} (h : S[n]? = some (.lst w xs)) : isK S (.loc n) .list = true := by
  simp only [isK, h]
/-! ### lists of the store -/
/-- all that stood stands on -/
def Pre (S S' : Store) : Prop := ∀ (j : Nat) (o : Ob), S[j]? = some o → S'[j]? = some o
theorem Pre.refl : Pre S S := fun _ _ h => h
theorem Pre.trans {S1 S2 : Store} (a : Pre S S1) (b : Pre S1 S2) : Pre S S2 := fun j o h => b j o (a j o h)
theorem Pre.app {r : List Ob} : Pre S (S ++ r) := fun j o e => by
  rw [List.getElem?_append_left (List.getElem?_eq_some_iff.mp e).1]; exact e
theorem Pre.ex {S' : Store} (L : Nat) (a : Pre S S') : Ex L S S' := fun j o _ e => a j o e
theorem Pre.sto {S' : Store} {L N : Nat} (a : Pre S S') (h : StO L N S) : StO L N S' := by
  obtain ⟨z, ⟨h1, h2⟩, h3⟩ := h
  exact ⟨z, ⟨a _ _ h1, h2⟩, h3⟩
/-- a list of S1, new behind S, is written -/
theorem Pre.set {S1 : Store} {l : Nat} {o : Ob} (a : Pre S S1) (h : S.length ≤ l) : Pre S (S1.set l o) := fun j p e => by
  rw [List.getElem?_set_ne (by have := (List.getElem?_eq_some_iff.mp e).1; omega)]
  exact a j p e
theorem at_new {o : Ob} : (S ++ [o])[S.length]? = some o := by simp
theorem lt_at {n : Nat} {o : Ob} (h : S[n]? = some o) : n < S.length := (List.getElem?_eq_some_iff.mp h).1
theorem at_set {n : Nat} {o p : Ob} (h : S[n]? = some o) : (S.set n p)[n]? = some p := List.getElem?_set_self (lt_at h)
theorem at_ne {n m : Nat} {o p : Ob} (h : S[n]? = some o) (hm : m ≠ n) : (S.set m p)[n]? = some o := by
  rw [List.getElem?_set_ne hm]; exact h
theorem wp_app {l : Nat} {xs : List D} {v : D} {Q : D → Store → Prop} (h : S[l]? = some (.lst true xs)) : Wp (appendD (.loc l) v) S Q E = (noExc (xs ++ [v]) = true ∧ (xs ++ [v]).length ≤ SZ ∧ Q .non (S.set l (.lst true (xs ++ [v])))) := by
  show Wp (bnd (listW l) fun xs => bnd (putL l (xs ++ [v])) fun _ => ret .non) S Q E = _
  rw [wp_bnd, wp_listW]
  refine propext ⟨fun ⟨xs', e, q⟩ => ?_, fun q => ⟨xs, h, ?_⟩⟩
  · rw [h] at e; cases e
    rw [wp_bnd, wp_putL] at q
    obtain ⟨_, _, a, b, q⟩ := q
    exact ⟨a, b, q⟩
  · rw [wp_bnd, wp_putL]
    exact ⟨_, h, q⟩
theorem wp_rev {l : Nat} {xs : List D} {Q : D → Store → Prop} (h : S[l]? = some (.lst true xs)) : Wp (reverseD (.loc l)) S Q E = (noExc xs.reverse = true ∧ xs.reverse.length ≤ SZ ∧ Q .non (S.set l (.lst true xs.reverse))) := by
  show Wp (bnd (listW l) fun xs => bnd (putL l xs.reverse) fun _ => ret .non) S Q E = _
  rw [wp_bnd, wp_listW]
  refine propext ⟨fun ⟨xs', e, q⟩ => ?_, fun q => ⟨xs, h, ?_⟩⟩
  · rw [h] at e; cases e
    rw [wp_bnd, wp_putL] at q
    obtain ⟨_, _, a, b, q⟩ := q
    exact ⟨a, b, q⟩
  · rw [wp_bnd, wp_putL]
    exact ⟨_, h, q⟩
theorem wp_lat {l : Nat} {w : Bool} {xs : List D} {Q : List D → Store → Prop} (h : S[l]? = some (.lst w xs)) : Wp (listAt l) S Q E = Q xs S := by
  rw [wp_listAt]
  exact propext ⟨fun ⟨w', xs', e, q⟩ => by rw [h] at e; cases e; exact q, fun q => ⟨w, xs, h, q⟩⟩
theorem wp_lwt {l : Nat} {xs : List D} {Q : List D → Store → Prop} (h : S[l]? = some (.lst true xs)) : Wp (listW l) S Q E = Q xs S := by
  rw [wp_listW]
  exact propext ⟨fun ⟨xs', e, q⟩ => by rw [h] at e; cases e; exact q, fun q => ⟨xs, h, q⟩⟩
theorem wp_lstK {l : Nat} {xs : List D} {Q : Unit → Store → Prop} (h : S[l]? = some (.lst true xs)) : Wp (lstK (.loc l)) S Q E = Q () S := by
  show Wp (bnd (listW l) fun _ => ret ()) S Q E = _
  rw [wp_bnd, wp_lwt h]; rfl
theorem wp_lenl {l : Nat} {w : Bool} {xs : List D} {Q : D → Store → Prop} (h : S[l]? = some (.lst w xs)) : Wp (lenD (.loc l)) S Q E = Q (.int xs.length) S := by
  unfold Wp lenD
  dsimp only
  rw [h]
theorem wp_atL {α : Type} {xs : List α} {k : Nat} {d : α} {Q : α → Store → Prop} (h : xs[k]? = some d) : Wp (atL xs (k : Int)) S Q E = Q d S := by
  unfold atL ixOf
  have hk : k < xs.length := (List.getElem?_eq_some_iff.mp h).1
  rw [if_pos (by omega), if_pos (by omega)]
  dsimp only
  rw [Int.toNat_natCast, h]
  rfl
/-- the cell at i -/
theorem wp_atI {α : Type} {xs : List α} {i : Int} (h0 : 0 ≤ i) (h1 : i.toNat < xs.length) {Q : α → Store → Prop} : Wp (atL xs i) S Q E = Q (xs[i.toNat]) S := by
  have e : i = (i.toNat : Int) := by omega
  conv => lhs; rw [e]
  exact wp_atL (List.getElem?_eq_getElem h1)
theorem wp_subl {l : Nat} {w : Bool} {xs : List D} {i : Int} {Q : D → Store → Prop} (h : S[l]? = some (.lst w xs)) : Wp (subsD (.loc l) (.int i)) S Q E = Wp (atL xs i) S Q E := by
  show Wp (bnd (listAt l) fun xs => atL xs i) S Q E = _
  rw [wp_bnd, wp_lat h]
/-! ### loops over a range, a list -/
theorem rgOk_s {n : Nat} (h : n ≤ 16777216) : rgOk (n : Int) = true := by
  unfold rgOk
  rw [Bool.and_eq_true]
  exact ⟨decide_eq_true (by omega), decide_eq_true (by omega)⟩
def rgI (j : Int) : It := ⟨j.toNat, fun k => ret (.int (0 + (k : Int))), ret ()⟩
/-- how a turn of a loop may end -/
def Turn (Q : Fl → Store → Prop) (I : Env → Store → Prop) : Fl → Store → Prop := fun f S' => match f with
  | .nx δ' => I δ' S'
  | .ct δ' => I δ' S'
  | .bk δ' => Q (.nx δ') S'
  | .rt d => Q (.rt d) S'
theorem wp_forR {as : AA} {v : Nat} {b : SS} {δ : Env} {Q : Fl → Store → Prop} (h : Wp (as δ) S (fun ds S0 => ∃ j, ds = [.int j] ∧ rgOk j = true ∧ Wp (forGo (rgI j) (nameG v) b j.toNat 0 δ) S0 Q E) E) : Wp (forS (rangeI1 as) (nameG v) b δ) S Q E := by
  show Wp (bnd (bnd (as δ) rangeIt1) fun I => forGo I (nameG v) b I.n 0 δ) S Q E
  rw [wp_bnd, wp_bnd]
  refine wp_mono h (fun ds S0 ⟨j, e, r, q⟩ => ?_) fun _ _ _ z => z
  subst e
  show Wp (bif rgOk j then _ else err) S0 _ E
  rw [wp_chk]
  exact ⟨r, q⟩
theorem wp_rgGo {j : Int} {v : Nat} {b : SS} {δ : Env} {Q : Fl → Store → Prop} (Inv : Nat → Env → Store → Prop) (h0 : Inv 0 δ S)
    (hs : ∀ (i : Nat) δ S, (i : Int) < j → Inv i δ S → Wp (b (δ.set v (some (.int i)))) S (Turn Q (Inv (i + 1))) E)
    (hd : ∀ δ S, Inv j.toNat δ S → Q (.nx δ) S) : Wp (forGo (rgI j) (nameG v) b j.toNat 0 δ) S Q E := by
  refine wp_forGo (n := j.toNat) Inv (fun i δ S hi h => ?_) (fun δ S h => by exact hd δ S h) _ 0 _ _ (by omega) h0
  show Wp (b (δ.set v (some (.int (0 + (i : Int)))))) S _ E
  rw [Int.zero_add]
  refine wp_mono (hs i δ S (by omega) h) (fun f S' z => ?_) fun _ _ _ z => z
  cases f <;> exact z
/-- a loop over a list, tuple, text -/
theorem wp_forI {it : II} {g : TG} {b : SS} {δ : Env} {Q : Fl → Store → Prop} (h : Wp (it δ) S (fun I S0 => Wp (forGo I g b I.n 0 δ) S0 Q E) E) : Wp (forS it g b δ) S Q E := by
  show Wp (bnd (it δ) fun I => forGo I g b I.n 0 δ) S Q E
  rw [wp_bnd]
  exact h
/-- over the signs of a text -/
theorem wp_strGo {s : List Nat} {v : Nat} {b : SS} {δ : Env} {Q : Fl → Store → Prop} (Inv : Nat → Env → Store → Prop) (h0 : Inv 0 δ S)
    (hs : ∀ (i : Nat) (c : Nat) δ S, s[i]? = some c → Inv i δ S → Wp (b (δ.set v (some (.str [c])))) S (Turn Q (Inv (i + 1))) E)
    (hd : ∀ δ S, Inv s.length δ S → Q (.nx δ) S) : Wp (forGo ⟨s.length, getS s, ret ()⟩ (nameG v) b s.length 0 δ) S Q E := by
  refine wp_forGo (n := s.length) Inv (fun i δ S hi h => ?_) (fun δ S h => by exact hd δ S h) _ 0 _ _ (by omega) h0
  show Wp (getS s i) S _ E
  unfold getS
  rw [List.getElem?_eq_getElem hi]
  show Wp (b (δ.set v (some (.str [s[i]])))) S _ E
  refine wp_mono (hs i _ δ S (List.getElem?_eq_getElem hi) h) (fun f S' z => ?_) fun _ _ _ z => z
  cases f <;> exact z
/-- over a tuple, a list that nobody writes -/
theorem wp_tupGo {s : List D} {v : Nat} {b : SS} {δ : Env} {Q : Fl → Store → Prop} (Inv : Nat → Env → Store → Prop) (h0 : Inv 0 δ S)
    (hs : ∀ (i : Nat) (c : D) δ S, s[i]? = some c → Inv i δ S → isExc c = false ∧ Wp (b (δ.set v (some c))) S (Turn Q (Inv (i + 1))) E)
    (hd : ∀ δ S, Inv s.length δ S → Q (.nx δ) S) : Wp (forGo ⟨s.length, getT s, ret ()⟩ (nameG v) b s.length 0 δ) S Q E := by
  refine wp_forGo (n := s.length) Inv (fun i δ S hi h => ?_) (fun δ S h => by exact hd δ S h) _ 0 _ _ (by omega) h0
  have e := List.getElem?_eq_getElem hi
  show Wp (getT s i) S _ E
  unfold getT
  rw [e]
  obtain ⟨h1, h2⟩ := hs i _ δ S e h
  show Wp (nameG v s[i] δ) S _ E
  unfold nameG
  rw [h1]
  show Wp (b (δ.set v (some s[i]))) S _ E
  refine wp_mono h2 (fun f S' z => ?_) fun _ _ _ z => z
  cases f <;> exact z
/-- over a list of the store; Inv keeps it -/
theorem wp_lstGo {l : Nat} {s : List D} {v : Nat} {b : SS} {δ : Env} {Q : Fl → Store → Prop} (Inv : Nat → Env → Store → Prop) (h0 : Inv 0 δ S)
    (hk : ∀ i δ S, Inv i δ S → ∃ w, S[l]? = some (.lst w s))
    (hs : ∀ (i : Nat) (c : D) δ S, s[i]? = some c → Inv i δ S → isExc c = false ∧ Wp (b (δ.set v (some c))) S (Turn Q (Inv (i + 1))) E)
    (hd : ∀ δ S, Inv s.length δ S → Q (.nx δ) S) : Wp (forGo ⟨s.length, getL l s.length, finL l s.length⟩ (nameG v) b s.length 0 δ) S Q E := by
  refine wp_forGo (n := s.length) Inv (fun i δ S hi h => ?_) (fun δ S h => ?_) _ 0 _ _ (by omega) h0
  · have e := List.getElem?_eq_getElem hi
    obtain ⟨w, hl⟩ := hk i δ S h
    show Wp (getL l s.length i) S _ E
    unfold getL
    rw [wp_bnd, wp_lat hl, wp_chk, e]
    refine ⟨by simp, ?_⟩
    obtain ⟨h1, h2⟩ := hs i _ δ S e h
    show Wp (nameG v s[i] δ) S _ E
    unfold nameG
    rw [h1]
    show Wp (b (δ.set v (some s[i]))) S _ E
    refine wp_mono h2 (fun f S' z => ?_) fun _ _ _ z => z
    cases f <;> exact z
  · obtain ⟨w, hl⟩ := hk _ δ S h
    show Wp (finL l s.length) S _ E
    unfold finL
    rw [wp_bnd, wp_lat hl, wp_chk]
    exact ⟨by simp, hd δ S h⟩
/-- a comprehension over a range, of elements that calls tell -/
theorem wp_compR {own : List Nat} {as : AA} {v : Nat} {e : EE} {δ : Env} {Q : D → Store → Prop} (h : Wp (as δ) S (fun ds S0 => ∃ j, ds = [.int j] ∧ rgOk j = true ∧ Wp (collect (rgI j) S0.length (nameG v) yesT e (forget δ own) j.toNat 0) (S0 ++ [.lst true []]) (fun _ S' => Q (.loc S0.length) S') fun _ _ _ => False) E) : Wp (compE own (rangeI1 as) (nameG v) yesT e δ) S Q E := by
  refine wp_comp ?_
  show Wp (bnd (as δ) rangeIt1) S _ E
  rw [wp_bnd]
  refine wp_mono h (fun ds S0 ⟨j, e, r, q⟩ => ?_) fun _ _ _ z => z
  subst e
  show Wp (bif rgOk j then _ else err) S0 _ E
  rw [wp_chk]
  exact ⟨r, q⟩
theorem wp_rgCol {j : Int} {l v : Nat} {e : EE} {δ : Env} {Q : Unit → Store → Prop} {P : List D → Store → Prop}
    (hj : j ≤ 16777216) (h0 : S[l]? = some (.lst true [])) (p0 : P [] S)
    (hs : ∀ (i : Nat) xs S, (i : Int) < j → xs.length = i → S[l]? = some (.lst true xs) → P xs S → Wp (e (δ.set v (some (.int i)))) S (fun y S' => isExc y = false ∧ S'[l]? = some (.lst true xs) ∧ ∀ S2, S2 = S'.set l (.lst true (xs ++ [y])) → P (xs ++ [y]) S2) fun _ _ _ => False)
    (hd : ∀ xs S, xs.length = j.toNat → S[l]? = some (.lst true xs) → P xs S → Q () S) : Wp (collect (rgI j) l (nameG v) yesT e δ j.toNat 0) S Q fun _ _ _ => False := by
  refine wp_collect (n := j.toNat) (fun i S => ∃ xs, xs.length = i ∧ noExc xs = true ∧ S[l]? = some (.lst true xs) ∧ P xs S) (fun i S hi ⟨xs, a, ne, b, p⟩ => ?_) (fun S ⟨xs, a, ne, b, p⟩ => by exact hd xs S a b p) _ 0 _ (by omega) ⟨[], rfl, rfl, h0, p0⟩
  show Wp (e (δ.set v (some (.int (0 + (i : Int)))))) S _ _
  rw [Int.zero_add]
  refine wp_mono (hs i xs S (by omega) a b p) (fun y S' ⟨z1, z2, z3⟩ => ?_) fun _ _ _ z => z
  show Wp (bnd (listW l) fun xs => putL l (xs ++ [y])) S' _ _
  rw [wp_bnd, wp_lwt z2, wp_putL]
  have hne : noExc (xs ++ [y]) = true := by
    unfold noExc at ne ⊢
    rw [List.all_append, ne]
    simp [z1]
  refine ⟨xs, z2, hne, ?_, xs ++ [y], by simp [a], hne, at_set z2, z3 _ rfl⟩
  rw [List.length_append, a]
  show i + 1 ≤ 16777216
  omega
theorem wp_tupCol {l v : Nat} {s : List D} {e : EE} {δ : Env} {Q : Unit → Store → Prop} {P : List D → Store → Prop}
    (hj : s.length ≤ 16777216) (h0 : S[l]? = some (.lst true [])) (p0 : P [] S)
    (hs : ∀ (i : Nat) xs S d, s[i]? = some d → xs.length = i → S[l]? = some (.lst true xs) → P xs S → isExc d = false ∧ Wp (e (δ.set v (some d))) S (fun y S' => isExc y = false ∧ S'[l]? = some (.lst true xs) ∧ ∀ S2, S2 = S'.set l (.lst true (xs ++ [y])) → P (xs ++ [y]) S2) fun _ _ _ => False)
    (hd : ∀ xs S, xs.length = s.length → S[l]? = some (.lst true xs) → P xs S → Q () S) : Wp (collect ⟨s.length, getT s, ret ()⟩ l (nameG v) yesT e δ s.length 0) S Q fun _ _ _ => False := by
  refine wp_collect (n := s.length) (fun i S => ∃ xs, xs.length = i ∧ noExc xs = true ∧ S[l]? = some (.lst true xs) ∧ P xs S) (fun i S hi ⟨xs, a, ne, b, p⟩ => ?_) (fun S ⟨xs, a, ne, b, p⟩ => by exact hd xs S a b p) _ 0 _ (by omega) ⟨[], rfl, rfl, h0, p0⟩
  have e0 := List.getElem?_eq_getElem hi
  show Wp (getT s i) S _ _
  unfold getT
  rw [e0]
  obtain ⟨h1, h2⟩ := hs i xs S _ e0 a b p
  show Wp (nameG v s[i] δ) S _ _
  unfold nameG
  rw [h1]
  show Wp (e (δ.set v (some s[i]))) S _ _
  refine wp_mono h2 (fun y S' ⟨z1, z2, z3⟩ => ?_) fun _ _ _ z => z
  show Wp (bnd (listW l) fun xs => putL l (xs ++ [y])) S' _ _
  rw [wp_bnd, wp_lwt z2, wp_putL]
  have hne : noExc (xs ++ [y]) = true := by
    unfold noExc at ne ⊢
    rw [List.all_append, ne]
    simp [z1]
  refine ⟨xs, z2, hne, ?_, xs ++ [y], by simp [a], hne, at_set z2, z3 _ rfl⟩
  rw [List.length_append, a]
  show i + 1 ≤ 16777216
  omega
theorem wp_addll {a b : Nat} {xs ys : List D} {Q : D → Store → Prop} (ha : S[a]? = some (.lst true xs)) (hb : S[b]? = some (.lst true ys)) : Wp (addD (.loc a) (.loc b)) S Q E = (noExc (xs ++ ys) = true ∧ (xs ++ ys).length ≤ SZ ∧ Q (.loc S.length) (S ++ [.lst true (xs ++ ys)])) := by
  show Wp (bnd (listW a) fun xs => bnd (listW b) fun ys => newL (xs ++ ys)) S Q E = _
  rw [wp_bnd, wp_lwt ha, wp_bnd, wp_lwt hb, wp_newL]
theorem noExc_app {xs ys : List D} : noExc (xs ++ ys) = (noExc xs && noExc ys) := by unfold noExc; rw [List.all_append]
theorem noExc_strs (ws : List (List Nat)) : noExc (ws.map .str) = true := by
  unfold noExc
  rw [List.all_eq_true]
  intro d h
  obtain ⟨w, _, e⟩ := List.mem_map.mp h
  subst e
  rfl
/-- the law's numbers stand, all else stands -/
def Ok (L N : Nat) (S S' : Store) : Prop := StO L N S' ∧ Ex L S S'
theorem Ok.refl {L N : Nat} (h : StO L N S) : Ok L N S S := ⟨h, .refl⟩
theorem Ok.trans {L N : Nat} {S1 S2 : Store} (a : Ok L N S S1) (b : Ok L N S1 S2) : Ok L N S S2 := ⟨b.1, a.2.trans b.2⟩
theorem Ok.pre {L N : Nat} {S1 S2 : Store} (a : Ok L N S S1) (b : Pre S1 S2) : Ok L N S S2 := ⟨b.sto a.1, a.2.trans (b.ex L)⟩
theorem StO.lt {L N : Nat} (h : StO L N S) : L < S.length := by
  obtain ⟨z, h, _⟩ := h
  exact h.lt
/-- a text of the list signs -/
theorem wp_sign {s : List Nat} {r : D} {m : Int} (h : Rnd m r) (hm : m ≤ s.length) (h0 : 0 < s.length) {Q : D → Store → Prop} (hq : ∀ c, c ∈ s → Q (.str [c]) S) : Wp (subsD (.str s) r) S Q E := by
  obtain ⟨k, e, k0, k1, k2⟩ := h
  subst e
  have hk : k.toNat < s.length := by
    by_cases q : 2 ≤ m
    · have := k1 q; omega
    · have := k2 (by omega); omega
  show Wp (bnd (atL s k) fun c => ret (.str [c])) S Q E
  rw [wp_bnd, wp_atI k0 hk]
  exact hq _ (List.getElem_mem hk)
theorem Pre.len {S1 : Store} (h : Pre S S1) : S.length ≤ S1.length := by
  rcases Nat.lt_or_ge S1.length S.length with q | q
  · have e := h S1.length _ (List.getElem?_eq_getElem q)
    have := lt_at e
    omega
  · exact q
theorem Ok.len {L N : Nat} {S1 : Store} (h : Ok L N S S1) : S.length ≤ S1.length := by
  rcases Nat.lt_or_ge S1.length S.length with q | q
  · have hL := h.1.lt
    have e := h.2 S1.length _ (by omega) (List.getElem?_eq_getElem q)
    have := lt_at e
    omega
  · exact q
theorem Ok.set {L N : Nat} {S1 : Store} {l : Nat} {o : Ob} (h : Ok L N S S1) (hL : L < S.length) (hl : S.length ≤ l) : Ok L N S (S1.set l o) := by
  obtain ⟨⟨z, ⟨h1, h2⟩, h3⟩, hx⟩ := h
  refine ⟨⟨z, ⟨at_ne h1 (by omega), h2⟩, h3⟩, fun j p hj e => ?_⟩
  exact at_ne (hx j p hj e) (by have := lt_at e; omega)
theorem Ok.app {L N : Nat} {S1 : Store} {r : List Ob} (h : Ok L N S S1) : Ok L N S (S1 ++ r) := h.pre .app
/-- the law's own item of a list -/
theorem wp_setl {l : Nat} {xs : List D} {i : Int} {v : D} (h : S[l]? = some (.lst true xs)) (h0 : 0 ≤ i) (h1 : i.toNat < xs.length) {Q : Unit → Store → Prop} : Wp (setItemD (.loc l) (.int i) v) S Q E = (noExc (xs.set i.toNat v) = true ∧ (xs.set i.toNat v).length ≤ SZ ∧ Q () (S.set l (.lst true (xs.set i.toNat v)))) := by
  show Wp (bnd (listW l) fun xs => (match ixOf i xs.length with
    | some k => putL l (xs.set k v)
    | none => err)) S Q E = _
  have e : ixOf i xs.length = some i.toNat := by
    unfold ixOf
    rw [if_pos h0, if_pos (by omega)]
  rw [wp_bnd, wp_lwt h, e]
  dsimp only
  rw [wp_putL]
  exact propext ⟨fun ⟨_, _, q⟩ => q, fun q => ⟨_, h, q⟩⟩
end
theorem infixB1 {c : Nat} : ∀ {s : List Nat}, infixB [c] s = s.contains c
  | [] => rfl
  | y :: ys => by
    show (([c].isPrefixOf (y :: ys)) || infixB [c] ys) = _
    rw [infixB1, List.contains_cons]
    simp [List.isPrefixOf]
/-! ### comprehensions that map -/
section
variable {S : Store} {E : Nat → List D → Store → Prop}
/-- [f(x) for x in ..], f told by F, nothing else written -/
theorem wp_mapI {own : List Nat} {it : II} {v : Nat} {e : EE} {δ : Env} {Q : D → Store → Prop} {xs : List D} (F : D → D)
    (hi : Wp (it δ) S (fun I S0 => S0 = S ∧ I.n = xs.length ∧ (∀ (i : Nat) (d : D) S', xs[i]? = some d → Pre S S' → Wp (I.get i) S' (fun d' S2 => d' = d ∧ S2 = S') fun _ _ _ => False) ∧ ∀ S', Pre S S' → Wp I.fin S' (fun _ S2 => S2 = S') fun _ _ _ => False) E)
    (hx : noExc xs = true) (hz : xs.length ≤ SZ) (hF : noExc (xs.map F) = true)
    (he : ∀ d, d ∈ xs → ∀ S', Pre S S' → Wp (e ((forget δ own).set v (some d))) S' (fun y S2 => y = F d ∧ S2 = S') fun _ _ _ => False)
    (hq : Q (.loc S.length) (S ++ [.lst true (xs.map F)])) : Wp (compE own it (nameG v) yesT e δ) S Q E := by
  refine wp_comp (wp_mono hi (fun I S0 ⟨e0, en, hg, hf⟩ => ?_) fun _ _ _ z => z)
  subst e0
  rw [en]
  refine wp_collect (n := xs.length) (fun i S' => S' = S0 ++ [.lst true ((xs.take i).map F)]) (fun i S' hi e1 => ?_) (fun S' e1 => ?_) _ 0 _ (by omega) rfl
  · subst e1
    have ei := List.getElem?_eq_getElem hi
    refine wp_mono (hg i _ _ ei .app) (fun d S2 ⟨ed, e2⟩ => ?_) fun _ _ _ z => z
    subst ed e2
    have hx1 : isExc xs[i] = false := by
      have := List.all_eq_true.mp hx _ (List.getElem_mem hi)
      simpa using this
    show Wp (bif isExc xs[i] then err else ret ((forget δ own).set v (some xs[i]))) _ _ _
    rw [hx1]
    show Wp (e ((forget δ own).set v (some xs[i]))) _ _ _
    refine wp_mono (he _ (List.getElem_mem hi) _ .app) (fun y S2 ⟨ey, e2⟩ => ?_) fun _ _ _ z => z
    subst ey e2
    show Wp (bnd (listW S0.length) fun ys => putL S0.length (ys ++ [F xs[i]])) _ _ _
    rw [wp_bnd, wp_lwt at_new, wp_putL]
    have e3 : (xs.take i).map F ++ [F xs[i]] = (xs.take (i + 1)).map F := by
      rw [List.take_add_one, ei, List.map_append]; rfl
    rw [e3]
    refine ⟨_, at_new, ?_, ?_, by simp⟩
    · unfold noExc at hF ⊢
      rw [List.all_eq_true] at hF ⊢
      intro d hd
      obtain ⟨z, hz, ez⟩ := List.mem_map.mp hd
      exact hF d (List.mem_map.mpr ⟨z, List.mem_of_mem_take hz, ez⟩)
    · rw [List.length_map, List.length_take]; omega
  · subst e1
    refine wp_mono (hf _ .app) (fun _ S2 e2 => ?_) fun _ _ _ z => z
    subst e2
    rw [List.take_of_length_le (Nat.le_refl _)]
    exact hq
/-- the signs of a text, as texts -/
def sgs (s : List Nat) : List D := s.map fun c => .str [c]
theorem noExc_sgs (s : List Nat) : noExc (sgs s) = true := by
  unfold noExc sgs
  rw [List.all_map]
  exact List.all_eq_true.mpr fun _ _ => rfl
theorem it_str {s : List Nat} : Wp (itOf (.str s)) S (fun I S0 => S0 = S ∧ I.n = (sgs s).length ∧ (∀ (i : Nat) (d : D) S', (sgs s)[i]? = some d → Pre S S' → Wp (I.get i) S' (fun d' S2 => d' = d ∧ S2 = S') fun _ _ _ => False) ∧ ∀ S', Pre S S' → Wp I.fin S' (fun _ S2 => S2 = S') fun _ _ _ => False) E := by
  show S = S ∧ _
  refine ⟨rfl, by show s.length = _; simp [sgs], fun i d S' h _ => ?_, fun S' _ => rfl⟩
  unfold sgs at h
  rw [List.getElem?_map] at h
  show Wp (getS s i) S' _ _
  unfold getS
  cases q : s[i]? with
  | none => rw [q] at h; cases h
  | some c => rw [q] at h; cases h; exact ⟨rfl, rfl⟩
theorem it_lst {l : Nat} {w : Bool} {xs : List D} (h : S[l]? = some (.lst w xs)) : Wp (itOf (.loc l)) S (fun I S0 => S0 = S ∧ I.n = xs.length ∧ (∀ (i : Nat) (d : D) S', xs[i]? = some d → Pre S S' → Wp (I.get i) S' (fun d' S2 => d' = d ∧ S2 = S') fun _ _ _ => False) ∧ ∀ S', Pre S S' → Wp I.fin S' (fun _ S2 => S2 = S') fun _ _ _ => False) E := by
  show Wp (bnd (listAt l) _) S _ _
  rw [wp_bnd, wp_lat h]
  show S = S ∧ _
  refine ⟨rfl, rfl, fun i d S' hi hp => ?_, fun S' hp => ?_⟩
  · show Wp (getL l xs.length i) S' _ _
    unfold getL
    rw [wp_bnd, wp_lat (hp _ _ h), wp_chk, hi]
    exact ⟨by simp, rfl, rfl⟩
  · show Wp (finL l xs.length) S' _ _
    unfold finL
    rw [wp_bnd, wp_lat (hp _ _ h), wp_chk]
    exact ⟨by simp, rfl⟩
theorem it_tup {xs : List D} : Wp (itOf (.tup xs)) S (fun I S0 => S0 = S ∧ I.n = xs.length ∧ (∀ (i : Nat) (d : D) S', xs[i]? = some d → Pre S S' → Wp (I.get i) S' (fun d' S2 => d' = d ∧ S2 = S') fun _ _ _ => False) ∧ ∀ S', Pre S S' → Wp I.fin S' (fun _ S2 => S2 = S') fun _ _ _ => False) E := by
  show S = S ∧ _
  refine ⟨rfl, rfl, fun i d S' h _ => ?_, fun S' _ => rfl⟩
  show Wp (getT xs i) S' _ _
  unfold getT
  rw [h]
  exact ⟨rfl, rfl⟩
/-! ### joining, digits -/
theorem strsOf_map : ∀ (ws : List (List Nat)), strsOf (ws.map .str) = some ws
  | [] => rfl
  | w :: r => by
    rw [List.map_cons]
    unfold strsOf
    rw [strsOf_map r]
theorem joinL_nil : ∀ (ws : List (List Nat)), joinL [] ws = ws.flatten
  | [] => rfl
  | [x] => by simp [joinL]
  | x :: y :: r => by
    show x ++ ([] ++ joinL [] (y :: r)) = _
    rw [joinL_nil (y :: r)]; rfl
theorem flat_sgs : ∀ (s : List Nat), (s.map fun c => [c]).flatten = s
  | [] => rfl
  | c :: r => by rw [List.map_cons, List.flatten_cons, flat_sgs r]; rfl
/-- "".join of the signs of a list -/
theorem wp_join0 {l : Nat} {w : Bool} {s : List Nat} {Q : D → Store → Prop} (h : S[l]? = some (.lst w (sgs s))) (hz : s.length ≤ SZ) (hq : Q (.str s) S) : Wp (joinD (.str []) (.loc l)) S Q E := by
  have e : strsOf (sgs s) = some (s.map fun c => [c]) := by
    unfold sgs
    rw [show (s.map fun c => D.str [c]) = (s.map fun c => [c]).map .str by simp]
    exact strsOf_map _
  show Wp (bnd (listAt l) fun xs => (match strsOf xs with
    | some ts => bif decide (((ts.map List.length).sum + ts.length * ([] : List Nat).length) ≤ SZ) then ret (.str (joinL [] ts)) else err
    | none => err)) S Q E
  rw [wp_bnd, wp_lat h, e]
  dsimp only
  rw [wp_chk, wp_ret, joinL_nil, flat_sgs]
  refine ⟨decide_eq_true ?_, hq⟩
  have : ((s.map fun c => [c]).map List.length).sum = s.length := by
    rw [List.map_map]
    have : ∀ (s : List Nat), (s.map (List.length ∘ fun c => [c])).sum = s.length := by
      intro s
      induction s with
      | nil => rfl
      | cons c r ih => simp [ih]; omega
    exact this s
  simp only [List.length_nil, Nat.mul_zero]
  omega
theorem int_1 {c : Nat} (h : 48 ≤ c ∧ c < 58) : intD (.str [c]) = ret (.int ((c - 48 : Nat) : Int)) := by
  have e : isDg [c] = true := by
    unfold isDg
    simp
    omega
  rw [int_s, e]
  show (ret (D.int ((dgV [c] : Nat) : Int)) : M D) = _
  unfold dgV
  simp
theorem str_1 {y : Int} (h : 0 ≤ y ∧ y < 10) : strD (.int y) = ret (.str [48 + y.toNat]) := by
  obtain ⟨k, e⟩ : ∃ k : Nat, y = k := ⟨y.toNat, by omega⟩
  subst e
  have hk : k < 10 := by omega
  match k, hk with
  | 0, _ => rfl
  | 1, _ => rfl
  | 2, _ => rfl
  | 3, _ => rfl
  | 4, _ => rfl
  | 5, _ => rfl
  | 6, _ => rfl
  | 7, _ => rfl
  | 8, _ => rfl
  | 9, _ => rfl
  | k + 10, h => omega
theorem rgOk_i {k : Int} (h0 : 0 ≤ k) (h1 : k ≤ 16777216) : rgOk k = true := by
  unfold rgOk
  rw [Bool.and_eq_true]
  exact ⟨decide_eq_true (by omega), decide_eq_true (by omega)⟩
end
end NB

set_option Elab.async false
set_option linter.all false
set_option maxRecDepth 100000
set_option maxHeartbeats 4000000
/-! Pl09: orders, in plain Lean. -/
namespace NB
/-- the first w signs -/
def sg (w : Nat) : List Nat := (List.range w).map (48 + ·)
theorem sg_len {w : Nat} : (sg w).length = w := by simp [sg]
theorem sg_mem {w c : Nat} : c ∈ sg w ↔ 48 ≤ c ∧ c < 48 + w := by
  unfold sg
  rw [List.mem_map]
  constructor
  · rintro ⟨k, hk, e⟩
    have := List.mem_range.mp hk
    omega
  · intro h
    exact ⟨c - 48, List.mem_range.mpr (by omega), by omega⟩
theorem sg_nodup (w : Nat) : (sg w).Nodup := by
  unfold sg
  refine List.Pairwise.map (R := (· ≠ ·)) _ (fun a b h => by omega) ?_
  exact List.nodup_range
theorem sg_get {w k : Nat} (h : k < w) : (sg w)[k]? = some (48 + k) := by
  unfold sg
  rw [List.getElem?_map, List.getElem?_range h]; rfl
theorem sg_cut {w : Nat} (h : w ≤ 5) : cutL [48, 49, 50, 51, 52] none (some (w : Int)) = sg w := by
  match w, h with
  | 0, _ => rfl
  | 1, _ => rfl
  | 2, _ => rfl
  | 3, _ => rfl
  | 4, _ => rfl
  | 5, _ => rfl
  | w + 6, h => omega
theorem perm_of : ∀ (l o : List Nat), l.Nodup → (∀ x, x ∈ l → x ∈ o) → o.length = l.length → o.Perm l
  | [], o, _, _, h => by
    have : o = [] := List.length_eq_zero_iff.mp h
    subst this; exact .refl _
  | x :: l, o, nd, hs, h => by
    have hx := hs x (List.mem_cons_self ..)
    have p := List.perm_cons_erase hx
    have nd := List.nodup_cons.mp nd
    have q : (o.erase x).Perm l := perm_of l (o.erase x) nd.2 (fun y hy => (List.mem_erase_of_ne (fun e => by subst e; exact nd.1 hy)).mpr (hs y (List.mem_cons_of_mem _ hy))) (by
      rw [List.length_erase_of_mem hx, h, List.length_cons]; omega)
    exact p.trans (q.cons x)
def isOrd (o : List Nat) : Bool := decide (1 ≤ o.length) && decide (o.length ≤ 5) && (sg o.length).all fun c => o.contains c
structure Ord (w : Nat) (o : List Nat) : Prop where
  lo : 1 ≤ w
  hi : w ≤ 5
  p : o.Perm (sg w)
/-- a text of the first w signs -/
def Tx (w : Nat) (t : List Nat) : Prop := ∀ c, c ∈ t → 48 ≤ c ∧ c < 48 + w
section
variable {w : Nat} {o : List Nat}
theorem Ord.len (h : Ord w o) : o.length = w := by rw [h.p.length_eq, sg_len]
theorem Ord.nd (h : Ord w o) : o.Nodup := h.p.nodup_iff.mpr (sg_nodup w)
theorem Ord.mem (h : Ord w o) {c : Nat} : c ∈ o ↔ 48 ≤ c ∧ c < 48 + w := by rw [h.p.mem_iff, sg_mem]
theorem ord_of (h : isOrd o = true) : Ord o.length o := by
  unfold isOrd at h
  rw [Bool.and_eq_true, Bool.and_eq_true, List.all_eq_true] at h
  exact ⟨of_decide_eq_true h.1.1, of_decide_eq_true h.1.2, perm_of _ _ (sg_nodup _) (fun x hx => by simpa using h.2 x hx) (by rw [sg_len])⟩
theorem Ord.isOrd (h : Ord w o) : isOrd o = true := by
  unfold NB.isOrd
  rw [h.len, decide_eq_true h.lo, decide_eq_true h.hi]
  rw [Bool.and_self, Bool.true_and, List.all_eq_true]
  intro c hc
  have := (h.mem (c := c)).mpr (sg_mem.mp hc)
  simpa using this
theorem Ord.of_all (lo : 1 ≤ w) (hi : w ≤ 5) (hl : o.length = w) (hm : ∀ k, k < w → 48 + k ∈ o) : Ord w o := ⟨lo, hi, perm_of _ _ (sg_nodup _) (fun x hx => by
  have := sg_mem.mp hx
  have := hm (x - 48) (by omega)
  rwa [show 48 + (x - 48) = x by omega] at this) (by rw [sg_len, hl])⟩
theorem idx_get : ∀ {o : List Nat} {c k : Nat}, idxC c o = some k → o[k]? = some c
  | [], _, _, h => by cases h
  | x :: r, c, k, h => by
    unfold idxC at h
    by_cases e : x = c
    · rw [if_pos e] at h; cases h; simp [e]
    · rw [if_neg e] at h
      cases q : idxC c r with
      | none => rw [q] at h; cases h
      | some j => rw [q] at h; cases h; simpa using idx_get q
theorem idx_some : ∀ {o : List Nat} {c : Nat}, c ∈ o → ∃ k, idxC c o = some k
  | x :: r, c, h => by
    unfold idxC
    by_cases e : x = c
    · exact ⟨0, by rw [if_pos e]⟩
    · rw [if_neg e]
      obtain ⟨k, q⟩ := idx_some (o := r) (c := c) (by
        rcases List.mem_cons.mp h with h | h
        · exact absurd h.symm e
        · exact h)
      exact ⟨k + 1, by rw [q]; rfl⟩
theorem nd_get {o : List Nat} (h : o.Nodup) {j k c : Nat} (hj : o[j]? = some c) (hk : o[k]? = some c) : j = k := by
  obtain ⟨j1, ej⟩ := List.getElem?_eq_some_iff.mp hj
  obtain ⟨k1, ek⟩ := List.getElem?_eq_some_iff.mp hk
  have hp := List.pairwise_iff_getElem.mp h
  rcases Nat.lt_trichotomy j k with q | q | q
  · exact absurd (ej.trans ek.symm) (hp j k j1 k1 q)
  · exact q
  · exact absurd (ek.trans ej.symm) (hp k j k1 j1 q)
theorem Ord.idx (h : Ord w o) {k c : Nat} (hk : o[k]? = some c) : idxC c o = some k := by
  obtain ⟨j, q⟩ := idx_some (List.mem_of_getElem? hk)
  rw [q, nd_get h.nd (idx_get q) hk]
/-- the place of a sign -/
theorem Ord.at (h : Ord w o) {y : Nat} (hy : y < w) : ∃ k, k < w ∧ o[k]? = some (48 + y) := by
  obtain ⟨k, q⟩ := idx_some ((h.mem (c := 48 + y)).mpr (by omega))
  have e := idx_get q
  exact ⟨k, by have := (List.getElem?_eq_some_iff.mp e).1; rwa [h.len] at this, e⟩
theorem Ord.get (h : Ord w o) {k : Nat} (hk : k < w) : ∃ y, y < w ∧ o[k]? = some (48 + y) := by
  have e := List.getElem?_eq_getElem (l := o) (i := k) (by rw [h.len]; exact hk)
  have := (h.mem (c := o[k]'(by rw [h.len]; exact hk))).mp (List.getElem_mem _)
  exact ⟨o[k]'(by rw [h.len]; exact hk) - 48, by omega, by rw [e]; congr 1; omega⟩
def rn (o t : List Nat) : List Nat := t.map fun c => o.getD (c - 48) 0
def bk (o : List Nat) : List Nat := (sg o.length).map fun c => 48 + (idxC c o).getD 0
theorem getD_of {o : List Nat} {k c : Nat} (h : o[k]? = some c) : o.getD k 0 = c := by
  rw [List.getD_eq_getElem?_getD, h]; rfl
theorem bk_len : (bk o).length = o.length := by unfold bk; rw [List.length_map, sg_len]
theorem Ord.bk_get (h : Ord w o) {y k : Nat} (hy : y < w) (hk : o[k]? = some (48 + y)) : (bk o)[y]? = some (48 + k) := by
  unfold bk
  rw [h.len, List.getElem?_map, sg_get hy]
  show some (48 + (idxC (48 + y) o).getD 0) = _
  rw [h.idx hk]; rfl
theorem lt_len {o : List Nat} {k c : Nat} (h : o[k]? = some c) : k < o.length := (List.getElem?_eq_some_iff.mp h).1
theorem Ord.bk (h : Ord w o) : Ord w (bk o) := by
  refine .of_all h.lo h.hi (by rw [bk_len, h.len]) fun k hk => ?_
  obtain ⟨y, hy, e⟩ := h.get hk
  exact List.mem_of_getElem? (h.bk_get hy e)
theorem rn_len {t : List Nat} : (rn o t).length = t.length := by unfold rn; rw [List.length_map]
theorem Ord.rn_tx (h : Ord w o) {t : List Nat} (ht : Tx w t) : Tx w (rn o t) := by
  intro c hc
  unfold rn at hc
  obtain ⟨d, hd, e⟩ := List.mem_map.mp hc
  have := ht d hd
  obtain ⟨y, hy, q⟩ := h.get (k := d - 48) (by omega)
  rw [getD_of q] at e
  omega
theorem Ord.undo (h : Ord w o) {t : List Nat} (ht : Tx w t) : rn (NB.bk o) (rn o t) = t := by
  unfold rn
  rw [List.map_map]
  conv => rhs; rw [← List.map_id t]
  refine List.map_congr_left fun c hc => ?_
  have := ht c hc
  obtain ⟨y, hy, q⟩ := h.get (k := c - 48) (by omega)
  show (NB.bk o).getD (o.getD (c - 48) 0 - 48) 0 = c
  rw [getD_of q, show 48 + y - 48 = y by omega, getD_of (h.bk_get hy q)]
  omega
theorem Ord.redo (h : Ord w o) {t : List Nat} (ht : Tx w t) : rn o (rn (NB.bk o) t) = t := by
  unfold rn
  rw [List.map_map]
  conv => rhs; rw [← List.map_id t]
  refine List.map_congr_left fun c hc => ?_
  have := ht c hc
  obtain ⟨k, hk, q⟩ := h.at (y := c - 48) (by omega)
  show o.getD ((NB.bk o).getD (c - 48) 0 - 48) 0 = c
  rw [getD_of (h.bk_get (by omega) q), show 48 + k - 48 = k by omega, getD_of q]
  omega
theorem Ord.bkbk (h : Ord w o) : NB.bk (NB.bk o) = o := by
  refine List.ext_getElem? fun y => ?_
  by_cases hy : y < w
  · obtain ⟨k, hk, q⟩ := h.bk.at hy
    rw [h.bk.bk_get hy q]
    obtain ⟨j, hj, q2⟩ := h.at hk
    have e := h.bk_get hk q2
    rw [q] at e
    cases (show y = j by injection e with e; omega)
    exact q2.symm
  · rw [List.getElem?_eq_none (by rw [bk_len, bk_len, h.len]; omega), List.getElem?_eq_none (by rw [h.len]; omega)]
theorem Ord.joint {p : List Nat} (h : Ord w o) (g : Ord w p) : Ord w (rn p o) := by
  refine .of_all h.lo h.hi (by rw [rn_len, h.len]) fun k hk => ?_
  obtain ⟨j, hj, q⟩ := g.at hk
  have : 48 + j ∈ o := h.mem.mpr (by omega)
  unfold rn
  exact List.mem_map.mpr ⟨_, this, by rw [show 48 + j - 48 = j by omega, getD_of q]⟩
theorem Ord.rnrn {p : List Nat} (h : Ord w o) {t : List Nat} (ht : Tx w t) : rn p (rn o t) = rn (rn p o) t := by
  show rn p (t.map _) = t.map _
  unfold rn
  rw [List.map_map]
  refine List.map_congr_left fun c hc => ?_
  have := ht c hc
  obtain ⟨y, hy, q⟩ := h.get (k := c - 48) (by omega)
  show p.getD (o.getD (c - 48) 0 - 48) 0 = (o.map fun c => p.getD (c - 48) 0).getD (c - 48) 0
  rw [getD_of q]
  have e : (o.map fun c => p.getD (c - 48) 0)[c - 48]? = some (p.getD (48 + y - 48) 0) := by
    rw [List.getElem?_map, q]; rfl
  rw [getD_of e]
theorem ord_sg (lo : 1 ≤ w) (hi : w ≤ 5) : Ord w (sg w) := ⟨lo, hi, .refl _⟩
theorem ord_rev (lo : 1 ≤ w) (hi : w ≤ 5) : Ord w (sg w).reverse := ⟨lo, hi, List.reverse_perm _⟩
theorem ord_rot (lo : 1 ≤ w) (hi : w ≤ 5) : Ord w ((sg w).drop 1 ++ (sg w).take 1) := ⟨lo, hi, List.perm_append_comm.trans (by rw [List.take_append_drop])⟩
theorem tx_ord (h : Ord w o) : Tx w o := fun c hc => h.mem.mp hc
/-- the most rounds of a width -/
def most (w : Nat) : Nat := [8, 8, 5, 4, 3].getD (w - 1) 0
theorem most_lt {w : Nat} (h0 : 1 ≤ w) (h1 : w ≤ 5) : 3 ≤ most w ∧ most w ≤ 8 := by
  match w, h0, h1 with
  | 1, _, _ => decide
  | 2, _, _ => decide
  | 3, _, _ => decide
  | 4, _, _ => decide
  | 5, _, _ => decide
  | w + 6, _, h => omega
end
/-- is it a text of the width, at most m long -/
def okT (w m : Nat) (t : List Nat) : Bool := decide (t.length ≤ m) && t.all fun c => (sg w).contains c
theorem okT_iff {w m : Nat} {t : List Nat} : okT w m t = true ↔ t.length ≤ m ∧ Tx w t := by
  unfold okT
  rw [Bool.and_eq_true, List.all_eq_true, decide_eq_true_eq]
  refine and_congr_right fun _ => forall_congr' fun c => imp_congr_right fun _ => ?_
  rw [List.contains_iff_mem, sg_mem]
theorem pop_perm : ∀ {α : Type} {r : List α} {k : Nat} {d : α}, r[k]? = some d → (d :: r.eraseIdx k).Perm r
  | _, x :: r, 0, d, h => by cases h; exact .refl _
  | _, x :: r, k + 1, d, h => by
    show (d :: x :: r.eraseIdx k).Perm _
    exact (List.Perm.swap x d _).trans ((pop_perm (r := r) (k := k) h).cons x)
end NB

set_option maxRecDepth 100000
set_option maxHeartbeats 4000000
namespace NB
/-! ### the law's own choosers -/
theorem sp_mixed {n L N : Nat} {S : Store} {Q : D → Store → Prop} {E : Nat → List D → Store → Prop} (h : StO L N S) (hq : ∀ i S', StO L N S' → Ex L S S' → Q (.int i) S') : Wp (callF LT (n + 1) i_mixed [.loc L]) S Q E := by
  obtain ⟨z, h, h5, h0⟩ := h
  rw [e_mixed]
  unfold c_mixed c_mixed_0 c_mixed_1 c_mixed_2 c_mixed_3 c_mixed_4
  simp only [eq_self, decide_true, decide_false, Bool.not_true, Bool.not_false, true_and, and_true, wp_isi, isK, List.any_cons, List.any_nil, Bool.or_false, Bool.false_or, Bool.or_true, Bool.true_or, setS, retS, exprS, cstE, op1E, op2E, opnE, consA, nilA, valT, andT, orT, notT, iteE, andE, orE, notE, callE, methE, m0, m1, one, skipS, brkS, cntS, raiseS, subS, parS, var0, set0, var1, set1, var2, set2, var3, set3, var4, set4, var5, set5, var6, set6, var7, set7, var8, set8, var9, set9, var10, set10, var11, set11, var12, set12, var13, set13, var14, set14, var15, set15, var16, set16, var17, set17, var18, set18, var19, set19, wp_bnd, wpr, wpe, wp_chk, bndr, bnde, List.append_nil, List.nil_append, List.cons_append, cond_true, cond_false, decide_eq_true_eq, slc_s1, slc_s2, slc_s3, slc_t1, slc_t2, slc_t3, slc_l1, slc_l2, slc_l3, chk_i, sliceE, add_ii, sub_ii, mul_ii, fdiv_ii, mod_ii, pow_ii, eq_ii, ne_ii, lt_ii, le_ii, gt_ii, ge_ii, add_ss, add_tt, mul_si, eq_ss, ne_ss, eq_bb, neg_i, abs_i, int_i, int_b, len_s, len_t, len_k, max_ii, min_ii, tr_b, tr_i, tr_s, tr_n, ie_i, is_i, isnt_i, ie_s, is_s, isnt_s, ie_b, is_b, isnt_b, ie_t, is_t, isnt_t, ie_l, is_l, isnt_l, ie_k, is_k, isnt_k, ie_n, is_n, isnt_n, ie_e, in_ss, nin_ss, sub_si, sub_ti, kst, end_rt, end_nx, seqS, h.get 3 ⟨by decide, by omega⟩, h.put 3 ⟨by decide, by omega⟩]
  have h1 := fun v => h.upd (Int.toNat 3) v
  simp only [eq_self, decide_true, decide_false, Bool.not_true, Bool.not_false, true_and, and_true, wp_isi, isK, List.any_cons, List.any_nil, Bool.or_false, Bool.false_or, Bool.or_true, Bool.true_or, setS, retS, exprS, cstE, op1E, op2E, opnE, consA, nilA, valT, andT, orT, notT, iteE, andE, orE, notE, callE, methE, m0, m1, one, skipS, brkS, cntS, raiseS, subS, parS, var0, set0, var1, set1, var2, set2, var3, set3, var4, set4, var5, set5, var6, set6, var7, set7, var8, set8, var9, set9, var10, set10, var11, set11, var12, set12, var13, set13, var14, set14, var15, set15, var16, set16, var17, set17, var18, set18, var19, set19, wp_bnd, wpr, wpe, wp_chk, bndr, bnde, List.append_nil, List.nil_append, List.cons_append, cond_true, cond_false, decide_eq_true_eq, slc_s1, slc_s2, slc_s3, slc_t1, slc_t2, slc_t3, slc_l1, slc_l2, slc_l3, chk_i, sliceE, add_ii, sub_ii, mul_ii, fdiv_ii, mod_ii, pow_ii, eq_ii, ne_ii, lt_ii, le_ii, gt_ii, ge_ii, add_ss, add_tt, mul_si, eq_ss, ne_ss, eq_bb, neg_i, abs_i, int_i, int_b, len_s, len_t, len_k, max_ii, min_ii, tr_b, tr_i, tr_s, tr_n, ie_i, is_i, isnt_i, ie_s, is_s, isnt_s, ie_b, is_b, isnt_b, ie_t, is_t, isnt_t, ie_l, is_l, isnt_l, ie_k, is_k, isnt_k, ie_n, is_n, isnt_n, ie_e, in_ss, nin_ss, sub_si, sub_ti, kst, end_rt, end_nx, seqS, (h1 _).get 2 ⟨by decide, by omega⟩, (h1 _).get 3 ⟨by decide, by omega⟩, (h1 _).put 2 ⟨by decide, by omega⟩]
  have h2 := fun v w => (h1 v).upd (Int.toNat 2) w
  simp only [eq_self, decide_true, decide_false, Bool.not_true, Bool.not_false, true_and, and_true, wp_isi, isK, List.any_cons, List.any_nil, Bool.or_false, Bool.false_or, Bool.or_true, Bool.true_or, setS, retS, exprS, cstE, op1E, op2E, opnE, consA, nilA, valT, andT, orT, notT, iteE, andE, orE, notE, callE, methE, m0, m1, one, skipS, brkS, cntS, raiseS, subS, parS, var0, set0, var1, set1, var2, set2, var3, set3, var4, set4, var5, set5, var6, set6, var7, set7, var8, set8, var9, set9, var10, set10, var11, set11, var12, set12, var13, set13, var14, set14, var15, set15, var16, set16, var17, set17, var18, set18, var19, set19, wp_bnd, wpr, wpe, wp_chk, bndr, bnde, List.append_nil, List.nil_append, List.cons_append, cond_true, cond_false, decide_eq_true_eq, slc_s1, slc_s2, slc_s3, slc_t1, slc_t2, slc_t3, slc_l1, slc_l2, slc_l3, chk_i, sliceE, add_ii, sub_ii, mul_ii, fdiv_ii, mod_ii, pow_ii, eq_ii, ne_ii, lt_ii, le_ii, gt_ii, ge_ii, add_ss, add_tt, mul_si, eq_ss, ne_ss, eq_bb, neg_i, abs_i, int_i, int_b, len_s, len_t, len_k, max_ii, min_ii, tr_b, tr_i, tr_s, tr_n, ie_i, is_i, isnt_i, ie_s, is_s, isnt_s, ie_b, is_b, isnt_b, ie_t, is_t, isnt_t, ie_l, is_l, isnt_l, ie_k, is_k, isnt_k, ie_n, is_n, isnt_n, ie_e, in_ss, nin_ss, sub_si, sub_ti, kst, end_rt, end_nx, seqS, (h2 _ _).get 2 ⟨by decide, by omega⟩, (h2 _ _).get 3 ⟨by decide, by omega⟩]
  have hl := h.2.1
  refine ⟨mulOk_r (by decide), mulOk_r (by decide), by decide, mulOk_l ?_, mulOk_r (by decide), by decide, mulOk_r (by decide), divOk_s (by decide) (by decide), by decide, hq _ _ ⟨_, h2 _ _, h5, ?_⟩ (Ex.set.trans Ex.set)⟩
  · rw [getD_set, if_pos ⟨rfl, by rw [List.length_set, hl]; show 2 < N; omega⟩]
    generalize (_ + 97 : Int) = y
    have e1 := Int.emod_nonneg y (show (2305843009213693951 : Int) ≠ 0 by decide)
    have e2 := Int.emod_lt_of_pos y (show (0 : Int) < 2305843009213693951 by decide)
    omega
  · rw [getD_set, if_neg (fun z => by cases z.1), getD_set, if_neg (fun z => by cases z.1)]
    exact h0
theorem StO.keep {L n : Nat} {S : Store} {z : List Int} (h : IL S L n z) (h5 : 5 ≤ n) (h0 : 0 ≤ z.getD 0 0) (k : Nat) (v : Int) (hk : 0 < k) : StO L n (S.set L (.lst true ((z.set k v).map .int))) := ⟨_, h.upd k v, h5, by
  rw [getD_set, if_neg (fun z => by omega)]; exact h0⟩
theorem sp_take {n L N : Nat} {m : Int} {S : Store} {Q : D → Store → Prop} {E : Nat → List D → Store → Prop} (h : StO L N S) (hm : m < 2 ^ 63) (hq : ∀ r S', Rnd m r → StO L N S' → Ex L S S' → Q r S') : Wp (callF LT (n + 2) i_take [.loc L, .int m]) S Q E := by
  rw [e_take]
  unfold c_take
  refine wp_def (wp_seq ?_)
  unfold c_take_0
  refine wp_ite ?_
  simp only [eq_self, decide_true, decide_false, Bool.not_true, Bool.not_false, true_and, and_true, wp_isi, isK, List.any_cons, List.any_nil, Bool.or_false, Bool.false_or, Bool.or_true, Bool.true_or, setS, retS, exprS, cstE, op1E, op2E, opnE, consA, nilA, valT, andT, orT, notT, iteE, andE, orE, notE, callE, methE, m0, m1, one, skipS, brkS, cntS, raiseS, subS, parS, var0, set0, var1, set1, var2, set2, var3, set3, var4, set4, var5, set5, var6, set6, var7, set7, var8, set8, var9, set9, var10, set10, var11, set11, var12, set12, var13, set13, var14, set14, var15, set15, var16, set16, var17, set17, var18, set18, var19, set19, wp_bnd, wpr, wpe, wp_chk, bndr, bnde, List.append_nil, List.nil_append, List.cons_append, cond_true, cond_false, decide_eq_true_eq, slc_s1, slc_s2, slc_s3, slc_t1, slc_t2, slc_t3, slc_l1, slc_l2, slc_l3, chk_i, sliceE, add_ii, sub_ii, mul_ii, fdiv_ii, mod_ii, pow_ii, eq_ii, ne_ii, lt_ii, le_ii, gt_ii, ge_ii, add_ss, add_tt, mul_si, eq_ss, ne_ss, eq_bb, neg_i, abs_i, int_i, int_b, len_s, len_t, len_k, max_ii, min_ii, tr_b, tr_i, tr_s, tr_n, ie_i, is_i, isnt_i, ie_s, is_s, isnt_s, ie_b, is_b, isnt_b, ie_t, is_t, isnt_t, ie_l, is_l, isnt_l, ie_k, is_k, isnt_k, ie_n, is_n, isnt_n, ie_e, in_ss, nin_ss, sub_si, sub_ti, kst, end_rt, end_nx]
  refine ⟨fun hlt => ?_, fun hge => ?_⟩
  · unfold c_take_1
    simp only [eq_self, decide_true, decide_false, Bool.not_true, Bool.not_false, true_and, and_true, wp_isi, isK, List.any_cons, List.any_nil, Bool.or_false, Bool.false_or, Bool.or_true, Bool.true_or, setS, retS, exprS, cstE, op1E, op2E, opnE, consA, nilA, valT, andT, orT, notT, iteE, andE, orE, notE, callE, methE, m0, m1, one, skipS, brkS, cntS, raiseS, subS, parS, var0, set0, var1, set1, var2, set2, var3, set3, var4, set4, var5, set5, var6, set6, var7, set7, var8, set8, var9, set9, var10, set10, var11, set11, var12, set12, var13, set13, var14, set14, var15, set15, var16, set16, var17, set17, var18, set18, var19, set19, wp_bnd, wpr, wpe, wp_chk, bndr, bnde, List.append_nil, List.nil_append, List.cons_append, cond_true, cond_false, decide_eq_true_eq, slc_s1, slc_s2, slc_s3, slc_t1, slc_t2, slc_t3, slc_l1, slc_l2, slc_l3, chk_i, sliceE, add_ii, sub_ii, mul_ii, fdiv_ii, mod_ii, pow_ii, eq_ii, ne_ii, lt_ii, le_ii, gt_ii, ge_ii, add_ss, add_tt, mul_si, eq_ss, ne_ss, eq_bb, neg_i, abs_i, int_i, int_b, len_s, len_t, len_k, max_ii, min_ii, tr_b, tr_i, tr_s, tr_n, ie_i, is_i, isnt_i, ie_s, is_s, isnt_s, ie_b, is_b, isnt_b, ie_t, is_t, isnt_t, ie_l, is_l, isnt_l, ie_k, is_k, isnt_k, ie_n, is_n, isnt_n, ie_e, in_ss, nin_ss, sub_si, sub_ti, kst, end_rt, end_nx]
    exact hq _ _ ⟨0, rfl, Int.le_refl _, fun z => by omega, fun _ => rfl⟩ h .refl
  have hge : 2 ≤ m := by simpa using hge
  refine wp_seq ?_
  -- a number of the script
  have s2 : Wp (c_take_2 (callF LT (n + 1)) [some (.loc L), some (.int m), none, none]) S (fun f S' => ∃ x, f = .nx [some (.loc L), some (.int m), x, none] ∧ StO L N S' ∧ Ex L S S') E := by
    obtain ⟨z, h, h5, h0⟩ := h
    have h1 := fun v => h.upd (Int.toNat 0) v
    have h2 := fun v w => (h1 v).upd (Int.toNat 2) w
    have g0 : ∀ v w, 0 ≤ v → 0 ≤ ((z.set (Int.toNat 0) v).set (Int.toNat 2) w).getD 0 0 := fun v w hv => by
      rw [getD_set, if_neg (fun z => by cases z.1), getD_set]
      split
      · exact hv
      · exact h0
    unfold c_take_2
    refine wp_ite ?_
    simp only [eq_self, decide_true, decide_false, Bool.not_true, Bool.not_false, true_and, and_true, wp_isi, isK, List.any_cons, List.any_nil, Bool.or_false, Bool.false_or, Bool.or_true, Bool.true_or, setS, retS, exprS, cstE, op1E, op2E, opnE, consA, nilA, valT, andT, orT, notT, iteE, andE, orE, notE, callE, methE, m0, m1, one, skipS, brkS, cntS, raiseS, subS, parS, var0, set0, var1, set1, var2, set2, var3, set3, var4, set4, var5, set5, var6, set6, var7, set7, var8, set8, var9, set9, var10, set10, var11, set11, var12, set12, var13, set13, var14, set14, var15, set15, var16, set16, var17, set17, var18, set18, var19, set19, wp_bnd, wpr, wpe, wp_chk, bndr, bnde, List.append_nil, List.nil_append, List.cons_append, cond_true, cond_false, decide_eq_true_eq, slc_s1, slc_s2, slc_s3, slc_t1, slc_t2, slc_t3, slc_l1, slc_l2, slc_l3, chk_i, sliceE, add_ii, sub_ii, mul_ii, fdiv_ii, mod_ii, pow_ii, eq_ii, ne_ii, lt_ii, le_ii, gt_ii, ge_ii, add_ss, add_tt, mul_si, eq_ss, ne_ss, eq_bb, neg_i, abs_i, int_i, int_b, len_s, len_t, len_k, max_ii, min_ii, tr_b, tr_i, tr_s, tr_n, ie_i, is_i, isnt_i, ie_s, is_s, isnt_s, ie_b, is_b, isnt_b, ie_t, is_t, isnt_t, ie_l, is_l, isnt_l, ie_k, is_k, isnt_k, ie_n, is_n, isnt_n, ie_e, in_ss, nin_ss, sub_si, sub_ti, kst, end_rt, end_nx, h.get 1 ⟨by decide, by omega⟩, wp_if]
    have no : Wp (skipS [some (.loc L), some (.int m), none, none]) S (fun f S' => ∃ x, f = .nx [some (.loc L), some (.int m), x, none] ∧ StO L N S' ∧ Ex L S S') E := ⟨_, rfl, ⟨z, h, h5, h0⟩, .refl⟩
    by_cases c1 : z.getD (Int.toNat 1) 0 = 0
    · simp only [eq_self, decide_true, decide_false, Bool.not_true, Bool.not_false, true_and, and_true, wp_isi, isK, List.any_cons, List.any_nil, Bool.or_false, Bool.false_or, Bool.or_true, Bool.true_or, setS, retS, exprS, cstE, op1E, op2E, opnE, consA, nilA, valT, andT, orT, notT, iteE, andE, orE, notE, callE, methE, m0, m1, one, skipS, brkS, cntS, raiseS, subS, parS, var0, set0, var1, set1, var2, set2, var3, set3, var4, set4, var5, set5, var6, set6, var7, set7, var8, set8, var9, set9, var10, set10, var11, set11, var12, set12, var13, set13, var14, set14, var15, set15, var16, set16, var17, set17, var18, set18, var19, set19, wp_bnd, wpr, wpe, wp_chk, bndr, bnde, List.append_nil, List.nil_append, List.cons_append, cond_true, cond_false, decide_eq_true_eq, slc_s1, slc_s2, slc_s3, slc_t1, slc_t2, slc_t3, slc_l1, slc_l2, slc_l3, chk_i, sliceE, add_ii, sub_ii, mul_ii, fdiv_ii, mod_ii, pow_ii, eq_ii, ne_ii, lt_ii, le_ii, gt_ii, ge_ii, add_ss, add_tt, mul_si, eq_ss, ne_ss, eq_bb, neg_i, abs_i, int_i, int_b, len_s, len_t, len_k, max_ii, min_ii, tr_b, tr_i, tr_s, tr_n, ie_i, is_i, isnt_i, ie_s, is_s, isnt_s, ie_b, is_b, isnt_b, ie_t, is_t, isnt_t, ie_l, is_l, isnt_l, ie_k, is_k, isnt_k, ie_n, is_n, isnt_n, ie_e, in_ss, nin_ss, sub_si, sub_ti, kst, end_rt, end_nx, c1, decide_true, h.get 4 ⟨by decide, by omega⟩, wp_if]
      by_cases c2 : z.getD (Int.toNat 4) 0 = 0
      · simp only [eq_self, decide_true, decide_false, Bool.not_true, Bool.not_false, true_and, and_true, wp_isi, isK, List.any_cons, List.any_nil, Bool.or_false, Bool.false_or, Bool.or_true, Bool.true_or, setS, retS, exprS, cstE, op1E, op2E, opnE, consA, nilA, valT, andT, orT, notT, iteE, andE, orE, notE, callE, methE, m0, m1, one, skipS, brkS, cntS, raiseS, subS, parS, var0, set0, var1, set1, var2, set2, var3, set3, var4, set4, var5, set5, var6, set6, var7, set7, var8, set8, var9, set9, var10, set10, var11, set11, var12, set12, var13, set13, var14, set14, var15, set15, var16, set16, var17, set17, var18, set18, var19, set19, wp_bnd, wpr, wpe, wp_chk, bndr, bnde, List.append_nil, List.nil_append, List.cons_append, cond_true, cond_false, decide_eq_true_eq, slc_s1, slc_s2, slc_s3, slc_t1, slc_t2, slc_t3, slc_l1, slc_l2, slc_l3, chk_i, sliceE, add_ii, sub_ii, mul_ii, fdiv_ii, mod_ii, pow_ii, eq_ii, ne_ii, lt_ii, le_ii, gt_ii, ge_ii, add_ss, add_tt, mul_si, eq_ss, ne_ss, eq_bb, neg_i, abs_i, int_i, int_b, len_s, len_t, len_k, max_ii, min_ii, tr_b, tr_i, tr_s, tr_n, ie_i, is_i, isnt_i, ie_s, is_s, isnt_s, ie_b, is_b, isnt_b, ie_t, is_t, isnt_t, ie_l, is_l, isnt_l, ie_k, is_k, isnt_k, ie_n, is_n, isnt_n, ie_e, in_ss, nin_ss, sub_si, sub_ti, kst, end_rt, end_nx, c2, decide_true, h.get 0 ⟨by decide, by omega⟩, h.len]
        refine ⟨fun c3 => ?_, fun _ => no⟩
        have c0 : 0 ≤ z.getD (Int.toNat 0) 0 := h0
        refine wp_seq ?_
        unfold c_take_3
        simp only [eq_self, decide_true, decide_false, Bool.not_true, Bool.not_false, true_and, and_true, wp_isi, isK, List.any_cons, List.any_nil, Bool.or_false, Bool.false_or, Bool.or_true, Bool.true_or, setS, retS, exprS, cstE, op1E, op2E, opnE, consA, nilA, valT, andT, orT, notT, iteE, andE, orE, notE, callE, methE, m0, m1, one, skipS, brkS, cntS, raiseS, subS, parS, var0, set0, var1, set1, var2, set2, var3, set3, var4, set4, var5, set5, var6, set6, var7, set7, var8, set8, var9, set9, var10, set10, var11, set11, var12, set12, var13, set13, var14, set14, var15, set15, var16, set16, var17, set17, var18, set18, var19, set19, wp_bnd, wpr, wpe, wp_chk, bndr, bnde, List.append_nil, List.nil_append, List.cons_append, cond_true, cond_false, decide_eq_true_eq, slc_s1, slc_s2, slc_s3, slc_t1, slc_t2, slc_t3, slc_l1, slc_l2, slc_l3, chk_i, sliceE, add_ii, sub_ii, mul_ii, fdiv_ii, mod_ii, pow_ii, eq_ii, ne_ii, lt_ii, le_ii, gt_ii, ge_ii, add_ss, add_tt, mul_si, eq_ss, ne_ss, eq_bb, neg_i, abs_i, int_i, int_b, len_s, len_t, len_k, max_ii, min_ii, tr_b, tr_i, tr_s, tr_n, ie_i, is_i, isnt_i, ie_s, is_s, isnt_s, ie_b, is_b, isnt_b, ie_t, is_t, isnt_t, ie_l, is_l, isnt_l, ie_k, is_k, isnt_k, ie_n, is_n, isnt_n, ie_e, in_ss, nin_ss, sub_si, sub_ti, kst, end_rt, end_nx, h.get 0 ⟨by decide, by omega⟩, h.get (z.getD (Int.toNat 0) 0) ⟨c0, by omega⟩]
        refine wp_seq ?_
        unfold c_take_4
        simp only [eq_self, decide_true, decide_false, Bool.not_true, Bool.not_false, true_and, and_true, wp_isi, isK, List.any_cons, List.any_nil, Bool.or_false, Bool.false_or, Bool.or_true, Bool.true_or, setS, retS, exprS, cstE, op1E, op2E, opnE, consA, nilA, valT, andT, orT, notT, iteE, andE, orE, notE, callE, methE, m0, m1, one, skipS, brkS, cntS, raiseS, subS, parS, var0, set0, var1, set1, var2, set2, var3, set3, var4, set4, var5, set5, var6, set6, var7, set7, var8, set8, var9, set9, var10, set10, var11, set11, var12, set12, var13, set13, var14, set14, var15, set15, var16, set16, var17, set17, var18, set18, var19, set19, wp_bnd, wpr, wpe, wp_chk, bndr, bnde, List.append_nil, List.nil_append, List.cons_append, cond_true, cond_false, decide_eq_true_eq, slc_s1, slc_s2, slc_s3, slc_t1, slc_t2, slc_t3, slc_l1, slc_l2, slc_l3, chk_i, sliceE, add_ii, sub_ii, mul_ii, fdiv_ii, mod_ii, pow_ii, eq_ii, ne_ii, lt_ii, le_ii, gt_ii, ge_ii, add_ss, add_tt, mul_si, eq_ss, ne_ss, eq_bb, neg_i, abs_i, int_i, int_b, len_s, len_t, len_k, max_ii, min_ii, tr_b, tr_i, tr_s, tr_n, ie_i, is_i, isnt_i, ie_s, is_s, isnt_s, ie_b, is_b, isnt_b, ie_t, is_t, isnt_t, ie_l, is_l, isnt_l, ie_k, is_k, isnt_k, ie_n, is_n, isnt_n, ie_e, in_ss, nin_ss, sub_si, sub_ti, kst, end_rt, end_nx, h.get 0 ⟨by decide, by omega⟩, h.put 0 ⟨by decide, by omega⟩]
        refine wp_seq ?_
        unfold c_take_5
        simp only [eq_self, decide_true, decide_false, Bool.not_true, Bool.not_false, true_and, and_true, wp_isi, isK, List.any_cons, List.any_nil, Bool.or_false, Bool.false_or, Bool.or_true, Bool.true_or, setS, retS, exprS, cstE, op1E, op2E, opnE, consA, nilA, valT, andT, orT, notT, iteE, andE, orE, notE, callE, methE, m0, m1, one, skipS, brkS, cntS, raiseS, subS, parS, var0, set0, var1, set1, var2, set2, var3, set3, var4, set4, var5, set5, var6, set6, var7, set7, var8, set8, var9, set9, var10, set10, var11, set11, var12, set12, var13, set13, var14, set14, var15, set15, var16, set16, var17, set17, var18, set18, var19, set19, wp_bnd, wpr, wpe, wp_chk, bndr, bnde, List.append_nil, List.nil_append, List.cons_append, cond_true, cond_false, decide_eq_true_eq, slc_s1, slc_s2, slc_s3, slc_t1, slc_t2, slc_t3, slc_l1, slc_l2, slc_l3, chk_i, sliceE, add_ii, sub_ii, mul_ii, fdiv_ii, mod_ii, pow_ii, eq_ii, ne_ii, lt_ii, le_ii, gt_ii, ge_ii, add_ss, add_tt, mul_si, eq_ss, ne_ss, eq_bb, neg_i, abs_i, int_i, int_b, len_s, len_t, len_k, max_ii, min_ii, tr_b, tr_i, tr_s, tr_n, ie_i, is_i, isnt_i, ie_s, is_s, isnt_s, ie_b, is_b, isnt_b, ie_t, is_t, isnt_t, ie_l, is_l, isnt_l, ie_k, is_k, isnt_k, ie_n, is_n, isnt_n, ie_e, in_ss, nin_ss, sub_si, sub_ti, kst, end_rt, end_nx, (h1 _).get 2 ⟨by decide, by omega⟩, (h1 _).put 2 ⟨by decide, by omega⟩]
        refine ⟨mulOk_r (by decide), by decide, ?_⟩
        unfold c_take_6
        refine wp_ite ?_
        simp only [eq_self, decide_true, decide_false, Bool.not_true, Bool.not_false, true_and, and_true, wp_isi, isK, List.any_cons, List.any_nil, Bool.or_false, Bool.false_or, Bool.or_true, Bool.true_or, setS, retS, exprS, cstE, op1E, op2E, opnE, consA, nilA, valT, andT, orT, notT, iteE, andE, orE, notE, callE, methE, m0, m1, one, skipS, brkS, cntS, raiseS, subS, parS, var0, set0, var1, set1, var2, set2, var3, set3, var4, set4, var5, set5, var6, set6, var7, set7, var8, set8, var9, set9, var10, set10, var11, set11, var12, set12, var13, set13, var14, set14, var15, set15, var16, set16, var17, set17, var18, set18, var19, set19, wp_bnd, wpr, wpe, wp_chk, bndr, bnde, List.append_nil, List.nil_append, List.cons_append, cond_true, cond_false, decide_eq_true_eq, slc_s1, slc_s2, slc_s3, slc_t1, slc_t2, slc_t3, slc_l1, slc_l2, slc_l3, chk_i, sliceE, add_ii, sub_ii, mul_ii, fdiv_ii, mod_ii, pow_ii, eq_ii, ne_ii, lt_ii, le_ii, gt_ii, ge_ii, add_ss, add_tt, mul_si, eq_ss, ne_ss, eq_bb, neg_i, abs_i, int_i, int_b, len_s, len_t, len_k, max_ii, min_ii, tr_b, tr_i, tr_s, tr_n, ie_i, is_i, isnt_i, ie_s, is_s, isnt_s, ie_b, is_b, isnt_b, ie_t, is_t, isnt_t, ie_l, is_l, isnt_l, ie_k, is_k, isnt_k, ie_n, is_n, isnt_n, ie_e, in_ss, nin_ss, sub_si, sub_ti, kst, end_rt, end_nx, wp_if]
        have s7 : ∀ (y i : Int) (S' : Store) (v w : Int), 0 ≤ v → S' = (S.set L (.lst true ((z.set (Int.toNat 0) v).map .int))).set L (.lst true (((z.set (Int.toNat 0) v).set (Int.toNat 2) w).map .int)) → Wp (c_take_7 (callF LT (n + 1)) [some (.loc L), some (.int m), some (.int y), none]) S' (fun f S' => ∃ x, f = .nx [some (.loc L), some (.int m), x, none] ∧ StO L N S' ∧ Ex L S S') E := by
          intro y i S' v w hv e
          subst e
          unfold c_take_7
          simp only [eq_self, decide_true, decide_false, Bool.not_true, Bool.not_false, true_and, and_true, wp_isi, isK, List.any_cons, List.any_nil, Bool.or_false, Bool.false_or, Bool.or_true, Bool.true_or, setS, retS, exprS, cstE, op1E, op2E, opnE, consA, nilA, valT, andT, orT, notT, iteE, andE, orE, notE, callE, methE, m0, m1, one, skipS, brkS, cntS, raiseS, subS, parS, var0, set0, var1, set1, var2, set2, var3, set3, var4, set4, var5, set5, var6, set6, var7, set7, var8, set8, var9, set9, var10, set10, var11, set11, var12, set12, var13, set13, var14, set14, var15, set15, var16, set16, var17, set17, var18, set18, var19, set19, wp_bnd, wpr, wpe, wp_chk, bndr, bnde, List.append_nil, List.nil_append, List.cons_append, cond_true, cond_false, decide_eq_true_eq, slc_s1, slc_s2, slc_s3, slc_t1, slc_t2, slc_t3, slc_l1, slc_l2, slc_l3, chk_i, sliceE, add_ii, sub_ii, mul_ii, fdiv_ii, mod_ii, pow_ii, eq_ii, ne_ii, lt_ii, le_ii, gt_ii, ge_ii, add_ss, add_tt, mul_si, eq_ss, ne_ss, eq_bb, neg_i, abs_i, int_i, int_b, len_s, len_t, len_k, max_ii, min_ii, tr_b, tr_i, tr_s, tr_n, ie_i, is_i, isnt_i, ie_s, is_s, isnt_s, ie_b, is_b, isnt_b, ie_t, is_t, isnt_t, ie_l, is_l, isnt_l, ie_k, is_k, isnt_k, ie_n, is_n, isnt_n, ie_e, in_ss, nin_ss, sub_si, sub_ti, kst, end_rt, end_nx, (h2 _ _).put 1 ⟨by decide, by omega⟩]
          exact ⟨_, rfl, .keep (h2 _ _) h5 (g0 _ _ hv) _ _ (by decide), (Ex.set.trans .set).trans .set⟩
        have s8 : ∀ (y i : Int) (S' : Store) (v w : Int), 0 ≤ v → S' = (S.set L (.lst true ((z.set (Int.toNat 0) v).map .int))).set L (.lst true (((z.set (Int.toNat 0) v).set (Int.toNat 2) w).map .int)) → Wp (c_take_8 (callF LT (n + 1)) [some (.loc L), some (.int m), some (.int y), none]) S' (fun f S' => ∃ x, f = .nx [some (.loc L), some (.int m), x, none] ∧ StO L N S' ∧ Ex L S S') E := by
          intro y i S' v w hv e
          subst e
          unfold c_take_8
          simp only [eq_self, decide_true, decide_false, Bool.not_true, Bool.not_false, true_and, and_true, wp_isi, isK, List.any_cons, List.any_nil, Bool.or_false, Bool.false_or, Bool.or_true, Bool.true_or, setS, retS, exprS, cstE, op1E, op2E, opnE, consA, nilA, valT, andT, orT, notT, iteE, andE, orE, notE, callE, methE, m0, m1, one, skipS, brkS, cntS, raiseS, subS, parS, var0, set0, var1, set1, var2, set2, var3, set3, var4, set4, var5, set5, var6, set6, var7, set7, var8, set8, var9, set9, var10, set10, var11, set11, var12, set12, var13, set13, var14, set14, var15, set15, var16, set16, var17, set17, var18, set18, var19, set19, wp_bnd, wpr, wpe, wp_chk, bndr, bnde, List.append_nil, List.nil_append, List.cons_append, cond_true, cond_false, decide_eq_true_eq, slc_s1, slc_s2, slc_s3, slc_t1, slc_t2, slc_t3, slc_l1, slc_l2, slc_l3, chk_i, sliceE, add_ii, sub_ii, mul_ii, fdiv_ii, mod_ii, pow_ii, eq_ii, ne_ii, lt_ii, le_ii, gt_ii, ge_ii, add_ss, add_tt, mul_si, eq_ss, ne_ss, eq_bb, neg_i, abs_i, int_i, int_b, len_s, len_t, len_k, max_ii, min_ii, tr_b, tr_i, tr_s, tr_n, ie_i, is_i, isnt_i, ie_s, is_s, isnt_s, ie_b, is_b, isnt_b, ie_t, is_t, isnt_t, ie_l, is_l, isnt_l, ie_k, is_k, isnt_k, ie_n, is_n, isnt_n, ie_e, in_ss, nin_ss, sub_si, sub_ti, kst, end_rt, end_nx, (h2 _ _).put 4 ⟨by decide, by omega⟩]
          exact ⟨_, rfl, .keep (h2 _ _) h5 (g0 _ _ hv) _ _ (by decide), (Ex.set.trans .set).trans .set⟩
        cases q : decide ((10 : Int) ^ Int.toNat 18 ≤ z.getD (Int.toNat (z.getD (Int.toNat 0) 0)) 0) with
        | true =>
          first
            | exact ⟨fun _ => s7 _ 0 _ _ _ (by omega) rfl, fun e => by cases e⟩
            | (simp only [eq_self, decide_true, decide_false, Bool.not_true, Bool.not_false, true_and, and_true, wp_isi, isK, List.any_cons, List.any_nil, Bool.or_false, Bool.false_or, Bool.or_true, Bool.true_or, setS, retS, exprS, cstE, op1E, op2E, opnE, consA, nilA, valT, andT, orT, notT, iteE, andE, orE, notE, callE, methE, m0, m1, one, skipS, brkS, cntS, raiseS, subS, parS, var0, set0, var1, set1, var2, set2, var3, set3, var4, set4, var5, set5, var6, set6, var7, set7, var8, set8, var9, set9, var10, set10, var11, set11, var12, set12, var13, set13, var14, set14, var15, set15, var16, set16, var17, set17, var18, set18, var19, set19, wp_bnd, wpr, wpe, wp_chk, bndr, bnde, List.append_nil, List.nil_append, List.cons_append, cond_true, cond_false, decide_eq_true_eq, slc_s1, slc_s2, slc_s3, slc_t1, slc_t2, slc_t3, slc_l1, slc_l2, slc_l3, chk_i, sliceE, add_ii, sub_ii, mul_ii, fdiv_ii, mod_ii, pow_ii, eq_ii, ne_ii, lt_ii, le_ii, gt_ii, ge_ii, add_ss, add_tt, mul_si, eq_ss, ne_ss, eq_bb, neg_i, abs_i, int_i, int_b, len_s, len_t, len_k, max_ii, min_ii, tr_b, tr_i, tr_s, tr_n, ie_i, is_i, isnt_i, ie_s, is_s, isnt_s, ie_b, is_b, isnt_b, ie_t, is_t, isnt_t, ie_l, is_l, isnt_l, ie_k, is_k, isnt_k, ie_n, is_n, isnt_n, ie_e, in_ss, nin_ss, sub_si, sub_ti, kst, end_rt, end_nx, q]; exact ⟨fun _ => s7 _ 0 _ _ _ (by omega) rfl, fun e => by cases e⟩)
        | false =>
          first
            | exact ⟨fun _ => s7 _ 0 _ _ _ (by omega) rfl, fun _ => s8 _ 0 _ _ _ (by omega) rfl⟩
            | (simp only [eq_self, decide_true, decide_false, Bool.not_true, Bool.not_false, true_and, and_true, wp_isi, isK, List.any_cons, List.any_nil, Bool.or_false, Bool.false_or, Bool.or_true, Bool.true_or, setS, retS, exprS, cstE, op1E, op2E, opnE, consA, nilA, valT, andT, orT, notT, iteE, andE, orE, notE, callE, methE, m0, m1, one, skipS, brkS, cntS, raiseS, subS, parS, var0, set0, var1, set1, var2, set2, var3, set3, var4, set4, var5, set5, var6, set6, var7, set7, var8, set8, var9, set9, var10, set10, var11, set11, var12, set12, var13, set13, var14, set14, var15, set15, var16, set16, var17, set17, var18, set18, var19, set19, wp_bnd, wpr, wpe, wp_chk, bndr, bnde, List.append_nil, List.nil_append, List.cons_append, cond_true, cond_false, decide_eq_true_eq, slc_s1, slc_s2, slc_s3, slc_t1, slc_t2, slc_t3, slc_l1, slc_l2, slc_l3, chk_i, sliceE, add_ii, sub_ii, mul_ii, fdiv_ii, mod_ii, pow_ii, eq_ii, ne_ii, lt_ii, le_ii, gt_ii, ge_ii, add_ss, add_tt, mul_si, eq_ss, ne_ss, eq_bb, neg_i, abs_i, int_i, int_b, len_s, len_t, len_k, max_ii, min_ii, tr_b, tr_i, tr_s, tr_n, ie_i, is_i, isnt_i, ie_s, is_s, isnt_s, ie_b, is_b, isnt_b, ie_t, is_t, isnt_t, ie_l, is_l, isnt_l, ie_k, is_k, isnt_k, ie_n, is_n, isnt_n, ie_e, in_ss, nin_ss, sub_si, sub_ti, kst, end_rt, end_nx, q]; exact ⟨fun _ => s7 _ 0 _ _ _ (by omega) rfl, fun _ => s8 _ 0 _ _ _ (by omega) rfl⟩)
      · simp only [eq_self, decide_true, decide_false, Bool.not_true, Bool.not_false, true_and, and_true, wp_isi, isK, List.any_cons, List.any_nil, Bool.or_false, Bool.false_or, Bool.or_true, Bool.true_or, setS, retS, exprS, cstE, op1E, op2E, opnE, consA, nilA, valT, andT, orT, notT, iteE, andE, orE, notE, callE, methE, m0, m1, one, skipS, brkS, cntS, raiseS, subS, parS, var0, set0, var1, set1, var2, set2, var3, set3, var4, set4, var5, set5, var6, set6, var7, set7, var8, set8, var9, set9, var10, set10, var11, set11, var12, set12, var13, set13, var14, set14, var15, set15, var16, set16, var17, set17, var18, set18, var19, set19, wp_bnd, wpr, wpe, wp_chk, bndr, bnde, List.append_nil, List.nil_append, List.cons_append, cond_true, cond_false, decide_eq_true_eq, slc_s1, slc_s2, slc_s3, slc_t1, slc_t2, slc_t3, slc_l1, slc_l2, slc_l3, chk_i, sliceE, add_ii, sub_ii, mul_ii, fdiv_ii, mod_ii, pow_ii, eq_ii, ne_ii, lt_ii, le_ii, gt_ii, ge_ii, add_ss, add_tt, mul_si, eq_ss, ne_ss, eq_bb, neg_i, abs_i, int_i, int_b, len_s, len_t, len_k, max_ii, min_ii, tr_b, tr_i, tr_s, tr_n, ie_i, is_i, isnt_i, ie_s, is_s, isnt_s, ie_b, is_b, isnt_b, ie_t, is_t, isnt_t, ie_l, is_l, isnt_l, ie_k, is_k, isnt_k, ie_n, is_n, isnt_n, ie_e, in_ss, nin_ss, sub_si, sub_ti, kst, end_rt, end_nx, c2, decide_false]
        exact ⟨(fun e => by cases e), fun _ => no⟩
    · simp only [eq_self, decide_true, decide_false, Bool.not_true, Bool.not_false, true_and, and_true, wp_isi, isK, List.any_cons, List.any_nil, Bool.or_false, Bool.false_or, Bool.or_true, Bool.true_or, setS, retS, exprS, cstE, op1E, op2E, opnE, consA, nilA, valT, andT, orT, notT, iteE, andE, orE, notE, callE, methE, m0, m1, one, skipS, brkS, cntS, raiseS, subS, parS, var0, set0, var1, set1, var2, set2, var3, set3, var4, set4, var5, set5, var6, set6, var7, set7, var8, set8, var9, set9, var10, set10, var11, set11, var12, set12, var13, set13, var14, set14, var15, set15, var16, set16, var17, set17, var18, set18, var19, set19, wp_bnd, wpr, wpe, wp_chk, bndr, bnde, List.append_nil, List.nil_append, List.cons_append, cond_true, cond_false, decide_eq_true_eq, slc_s1, slc_s2, slc_s3, slc_t1, slc_t2, slc_t3, slc_l1, slc_l2, slc_l3, chk_i, sliceE, add_ii, sub_ii, mul_ii, fdiv_ii, mod_ii, pow_ii, eq_ii, ne_ii, lt_ii, le_ii, gt_ii, ge_ii, add_ss, add_tt, mul_si, eq_ss, ne_ss, eq_bb, neg_i, abs_i, int_i, int_b, len_s, len_t, len_k, max_ii, min_ii, tr_b, tr_i, tr_s, tr_n, ie_i, is_i, isnt_i, ie_s, is_s, isnt_s, ie_b, is_b, isnt_b, ie_t, is_t, isnt_t, ie_l, is_l, isnt_l, ie_k, is_k, isnt_k, ie_n, is_n, isnt_n, ie_e, in_ss, nin_ss, sub_si, sub_ti, kst, end_rt, end_nx, c1, decide_false]
      exact ⟨(fun e => by cases e), fun _ => no⟩
  refine wp_mono s2 (fun f S1 ⟨x, ef, st1, ex1⟩ => ?_) fun _ _ _ z => z
  subst ef
  refine wp_seq ?_
  obtain ⟨z, h, h5, h0⟩ := st1
  unfold c_take_9
  refine wp_ite ?_
  simp only [eq_self, decide_true, decide_false, Bool.not_true, Bool.not_false, true_and, and_true, wp_isi, isK, List.any_cons, List.any_nil, Bool.or_false, Bool.false_or, Bool.or_true, Bool.true_or, setS, retS, exprS, cstE, op1E, op2E, opnE, consA, nilA, valT, andT, orT, notT, iteE, andE, orE, notE, callE, methE, m0, m1, one, skipS, brkS, cntS, raiseS, subS, parS, var0, set0, var1, set1, var2, set2, var3, set3, var4, set4, var5, set5, var6, set6, var7, set7, var8, set8, var9, set9, var10, set10, var11, set11, var12, set12, var13, set13, var14, set14, var15, set15, var16, set16, var17, set17, var18, set18, var19, set19, wp_bnd, wpr, wpe, wp_chk, bndr, bnde, List.append_nil, List.nil_append, List.cons_append, cond_true, cond_false, decide_eq_true_eq, slc_s1, slc_s2, slc_s3, slc_t1, slc_t2, slc_t3, slc_l1, slc_l2, slc_l3, chk_i, sliceE, add_ii, sub_ii, mul_ii, fdiv_ii, mod_ii, pow_ii, eq_ii, ne_ii, lt_ii, le_ii, gt_ii, ge_ii, add_ss, add_tt, mul_si, eq_ss, ne_ss, eq_bb, neg_i, abs_i, int_i, int_b, len_s, len_t, len_k, max_ii, min_ii, tr_b, tr_i, tr_s, tr_n, ie_i, is_i, isnt_i, ie_s, is_s, isnt_s, ie_b, is_b, isnt_b, ie_t, is_t, isnt_t, ie_l, is_l, isnt_l, ie_k, is_k, isnt_k, ie_n, is_n, isnt_n, ie_e, in_ss, nin_ss, sub_si, sub_ti, kst, end_rt, end_nx, h.get 1 ⟨by decide, by omega⟩]
  refine ⟨fun hp => ?_, fun _ => ?_⟩
  · refine wp_seq ?_
    unfold c_take_10
    simp only [eq_self, decide_true, decide_false, Bool.not_true, Bool.not_false, true_and, and_true, wp_isi, isK, List.any_cons, List.any_nil, Bool.or_false, Bool.false_or, Bool.or_true, Bool.true_or, setS, retS, exprS, cstE, op1E, op2E, opnE, consA, nilA, valT, andT, orT, notT, iteE, andE, orE, notE, callE, methE, m0, m1, one, skipS, brkS, cntS, raiseS, subS, parS, var0, set0, var1, set1, var2, set2, var3, set3, var4, set4, var5, set5, var6, set6, var7, set7, var8, set8, var9, set9, var10, set10, var11, set11, var12, set12, var13, set13, var14, set14, var15, set15, var16, set16, var17, set17, var18, set18, var19, set19, wp_bnd, wpr, wpe, wp_chk, bndr, bnde, List.append_nil, List.nil_append, List.cons_append, cond_true, cond_false, decide_eq_true_eq, slc_s1, slc_s2, slc_s3, slc_t1, slc_t2, slc_t3, slc_l1, slc_l2, slc_l3, chk_i, sliceE, add_ii, sub_ii, mul_ii, fdiv_ii, mod_ii, pow_ii, eq_ii, ne_ii, lt_ii, le_ii, gt_ii, ge_ii, add_ss, add_tt, mul_si, eq_ss, ne_ss, eq_bb, neg_i, abs_i, int_i, int_b, len_s, len_t, len_k, max_ii, min_ii, tr_b, tr_i, tr_s, tr_n, ie_i, is_i, isnt_i, ie_s, is_s, isnt_s, ie_b, is_b, isnt_b, ie_t, is_t, isnt_t, ie_l, is_l, isnt_l, ie_k, is_k, isnt_k, ie_n, is_n, isnt_n, ie_e, in_ss, nin_ss, sub_si, sub_ti, kst, end_rt, end_nx, h.get 1 ⟨by decide, by omega⟩]
    refine ⟨by omega, wp_seq ?_⟩
    unfold c_take_11
    simp only [eq_self, decide_true, decide_false, Bool.not_true, Bool.not_false, true_and, and_true, wp_isi, isK, List.any_cons, List.any_nil, Bool.or_false, Bool.false_or, Bool.or_true, Bool.true_or, setS, retS, exprS, cstE, op1E, op2E, opnE, consA, nilA, valT, andT, orT, notT, iteE, andE, orE, notE, callE, methE, m0, m1, one, skipS, brkS, cntS, raiseS, subS, parS, var0, set0, var1, set1, var2, set2, var3, set3, var4, set4, var5, set5, var6, set6, var7, set7, var8, set8, var9, set9, var10, set10, var11, set11, var12, set12, var13, set13, var14, set14, var15, set15, var16, set16, var17, set17, var18, set18, var19, set19, wp_bnd, wpr, wpe, wp_chk, bndr, bnde, List.append_nil, List.nil_append, List.cons_append, cond_true, cond_false, decide_eq_true_eq, slc_s1, slc_s2, slc_s3, slc_t1, slc_t2, slc_t3, slc_l1, slc_l2, slc_l3, chk_i, sliceE, add_ii, sub_ii, mul_ii, fdiv_ii, mod_ii, pow_ii, eq_ii, ne_ii, lt_ii, le_ii, gt_ii, ge_ii, add_ss, add_tt, mul_si, eq_ss, ne_ss, eq_bb, neg_i, abs_i, int_i, int_b, len_s, len_t, len_k, max_ii, min_ii, tr_b, tr_i, tr_s, tr_n, ie_i, is_i, isnt_i, ie_s, is_s, isnt_s, ie_b, is_b, isnt_b, ie_t, is_t, isnt_t, ie_l, is_l, isnt_l, ie_k, is_k, isnt_k, ie_n, is_n, isnt_n, ie_e, in_ss, nin_ss, sub_si, sub_ti, kst, end_rt, end_nx, h.get 1 ⟨by decide, by omega⟩, h.put 1 ⟨by decide, by omega⟩]
    refine ⟨divOk_s (by omega) hm, ?_⟩
    unfold c_take_12
    simp only [eq_self, decide_true, decide_false, Bool.not_true, Bool.not_false, true_and, and_true, wp_isi, isK, List.any_cons, List.any_nil, Bool.or_false, Bool.false_or, Bool.or_true, Bool.true_or, setS, retS, exprS, cstE, op1E, op2E, opnE, consA, nilA, valT, andT, orT, notT, iteE, andE, orE, notE, callE, methE, m0, m1, one, skipS, brkS, cntS, raiseS, subS, parS, var0, set0, var1, set1, var2, set2, var3, set3, var4, set4, var5, set5, var6, set6, var7, set7, var8, set8, var9, set9, var10, set10, var11, set11, var12, set12, var13, set13, var14, set14, var15, set15, var16, set16, var17, set17, var18, set18, var19, set19, wp_bnd, wpr, wpe, wp_chk, bndr, bnde, List.append_nil, List.nil_append, List.cons_append, cond_true, cond_false, decide_eq_true_eq, slc_s1, slc_s2, slc_s3, slc_t1, slc_t2, slc_t3, slc_l1, slc_l2, slc_l3, chk_i, sliceE, add_ii, sub_ii, mul_ii, fdiv_ii, mod_ii, pow_ii, eq_ii, ne_ii, lt_ii, le_ii, gt_ii, ge_ii, add_ss, add_tt, mul_si, eq_ss, ne_ss, eq_bb, neg_i, abs_i, int_i, int_b, len_s, len_t, len_k, max_ii, min_ii, tr_b, tr_i, tr_s, tr_n, ie_i, is_i, isnt_i, ie_s, is_s, isnt_s, ie_b, is_b, isnt_b, ie_t, is_t, isnt_t, ie_l, is_l, isnt_l, ie_k, is_k, isnt_k, ie_n, is_n, isnt_n, ie_e, in_ss, nin_ss, sub_si, sub_ti, kst, end_rt, end_nx]
    exact hq _ _ ⟨_, rfl, Int.emod_nonneg _ (by omega), fun _ => Int.emod_lt_of_pos _ (by omega), fun e => by omega⟩ (.keep h h5 h0 _ _ (by decide)) (ex1.trans .set)
  · refine wp_seq ?_
    have s13 : Wp (c_take_13 (callF LT (n + 1)) [some (.loc L), some (.int m), x, none]) S1 (fun f S' => f = .nx [some (.loc L), some (.int m), x, none] ∧ StO L N S' ∧ Ex L S S') E := by
      unfold c_take_13
      refine wp_ite ?_
      simp only [eq_self, decide_true, decide_false, Bool.not_true, Bool.not_false, true_and, and_true, wp_isi, isK, List.any_cons, List.any_nil, Bool.or_false, Bool.false_or, Bool.or_true, Bool.true_or, setS, retS, exprS, cstE, op1E, op2E, opnE, consA, nilA, valT, andT, orT, notT, iteE, andE, orE, notE, callE, methE, m0, m1, one, skipS, brkS, cntS, raiseS, subS, parS, var0, set0, var1, set1, var2, set2, var3, set3, var4, set4, var5, set5, var6, set6, var7, set7, var8, set8, var9, set9, var10, set10, var11, set11, var12, set12, var13, set13, var14, set14, var15, set15, var16, set16, var17, set17, var18, set18, var19, set19, wp_bnd, wpr, wpe, wp_chk, bndr, bnde, List.append_nil, List.nil_append, List.cons_append, cond_true, cond_false, decide_eq_true_eq, slc_s1, slc_s2, slc_s3, slc_t1, slc_t2, slc_t3, slc_l1, slc_l2, slc_l3, chk_i, sliceE, add_ii, sub_ii, mul_ii, fdiv_ii, mod_ii, pow_ii, eq_ii, ne_ii, lt_ii, le_ii, gt_ii, ge_ii, add_ss, add_tt, mul_si, eq_ss, ne_ss, eq_bb, neg_i, abs_i, int_i, int_b, len_s, len_t, len_k, max_ii, min_ii, tr_b, tr_i, tr_s, tr_n, ie_i, is_i, isnt_i, ie_s, is_s, isnt_s, ie_b, is_b, isnt_b, ie_t, is_t, isnt_t, ie_l, is_l, isnt_l, ie_k, is_k, isnt_k, ie_n, is_n, isnt_n, ie_e, in_ss, nin_ss, sub_si, sub_ti, kst, end_rt, end_nx, h.get 4 ⟨by decide, by omega⟩]
      refine ⟨fun _ => ?_, fun _ => ⟨⟨z, h, h5, h0⟩, ex1⟩⟩
      unfold c_take_14
      simp only [eq_self, decide_true, decide_false, Bool.not_true, Bool.not_false, true_and, and_true, wp_isi, isK, List.any_cons, List.any_nil, Bool.or_false, Bool.false_or, Bool.or_true, Bool.true_or, setS, retS, exprS, cstE, op1E, op2E, opnE, consA, nilA, valT, andT, orT, notT, iteE, andE, orE, notE, callE, methE, m0, m1, one, skipS, brkS, cntS, raiseS, subS, parS, var0, set0, var1, set1, var2, set2, var3, set3, var4, set4, var5, set5, var6, set6, var7, set7, var8, set8, var9, set9, var10, set10, var11, set11, var12, set12, var13, set13, var14, set14, var15, set15, var16, set16, var17, set17, var18, set18, var19, set19, wp_bnd, wpr, wpe, wp_chk, bndr, bnde, List.append_nil, List.nil_append, List.cons_append, cond_true, cond_false, decide_eq_true_eq, slc_s1, slc_s2, slc_s3, slc_t1, slc_t2, slc_t3, slc_l1, slc_l2, slc_l3, chk_i, sliceE, add_ii, sub_ii, mul_ii, fdiv_ii, mod_ii, pow_ii, eq_ii, ne_ii, lt_ii, le_ii, gt_ii, ge_ii, add_ss, add_tt, mul_si, eq_ss, ne_ss, eq_bb, neg_i, abs_i, int_i, int_b, len_s, len_t, len_k, max_ii, min_ii, tr_b, tr_i, tr_s, tr_n, ie_i, is_i, isnt_i, ie_s, is_s, isnt_s, ie_b, is_b, isnt_b, ie_t, is_t, isnt_t, ie_l, is_l, isnt_l, ie_k, is_k, isnt_k, ie_n, is_n, isnt_n, ie_e, in_ss, nin_ss, sub_si, sub_ti, kst, end_rt, end_nx, h.get 4 ⟨by decide, by omega⟩, h.put 4 ⟨by decide, by omega⟩]
      exact ⟨.keep h h5 h0 _ _ (by decide), ex1.trans .set⟩
    refine wp_mono s13 (fun f S2 ⟨ef, st2, ex2⟩ => ?_) fun _ _ _ z => z
    subst ef
    unfold c_take_15
    simp only [eq_self, decide_true, decide_false, Bool.not_true, Bool.not_false, true_and, and_true, wp_isi, isK, List.any_cons, List.any_nil, Bool.or_false, Bool.false_or, Bool.or_true, Bool.true_or, setS, retS, exprS, cstE, op1E, op2E, opnE, consA, nilA, valT, andT, orT, notT, iteE, andE, orE, notE, callE, methE, m0, m1, one, skipS, brkS, cntS, raiseS, subS, parS, var0, set0, var1, set1, var2, set2, var3, set3, var4, set4, var5, set5, var6, set6, var7, set7, var8, set8, var9, set9, var10, set10, var11, set11, var12, set12, var13, set13, var14, set14, var15, set15, var16, set16, var17, set17, var18, set18, var19, set19, wp_bnd, wpr, wpe, wp_chk, bndr, bnde, List.append_nil, List.nil_append, List.cons_append, cond_true, cond_false, decide_eq_true_eq, slc_s1, slc_s2, slc_s3, slc_t1, slc_t2, slc_t3, slc_l1, slc_l2, slc_l3, chk_i, sliceE, add_ii, sub_ii, mul_ii, fdiv_ii, mod_ii, pow_ii, eq_ii, ne_ii, lt_ii, le_ii, gt_ii, ge_ii, add_ss, add_tt, mul_si, eq_ss, ne_ss, eq_bb, neg_i, abs_i, int_i, int_b, len_s, len_t, len_k, max_ii, min_ii, tr_b, tr_i, tr_s, tr_n, ie_i, is_i, isnt_i, ie_s, is_s, isnt_s, ie_b, is_b, isnt_b, ie_t, is_t, isnt_t, ie_l, is_l, isnt_l, ie_k, is_k, isnt_k, ie_n, is_n, isnt_n, ie_e, in_ss, nin_ss, sub_si, sub_ti, kst, end_rt, end_nx]
    refine sp_mixed st2 fun i S3 st3 ex3 => ?_
    simp only [eq_self, decide_true, decide_false, Bool.not_true, Bool.not_false, true_and, and_true, wp_isi, isK, List.any_cons, List.any_nil, Bool.or_false, Bool.false_or, Bool.or_true, Bool.true_or, setS, retS, exprS, cstE, op1E, op2E, opnE, consA, nilA, valT, andT, orT, notT, iteE, andE, orE, notE, callE, methE, m0, m1, one, skipS, brkS, cntS, raiseS, subS, parS, var0, set0, var1, set1, var2, set2, var3, set3, var4, set4, var5, set5, var6, set6, var7, set7, var8, set8, var9, set9, var10, set10, var11, set11, var12, set12, var13, set13, var14, set14, var15, set15, var16, set16, var17, set17, var18, set18, var19, set19, wp_bnd, wpr, wpe, wp_chk, bndr, bnde, List.append_nil, List.nil_append, List.cons_append, cond_true, cond_false, decide_eq_true_eq, slc_s1, slc_s2, slc_s3, slc_t1, slc_t2, slc_t3, slc_l1, slc_l2, slc_l3, chk_i, sliceE, add_ii, sub_ii, mul_ii, fdiv_ii, mod_ii, pow_ii, eq_ii, ne_ii, lt_ii, le_ii, gt_ii, ge_ii, add_ss, add_tt, mul_si, eq_ss, ne_ss, eq_bb, neg_i, abs_i, int_i, int_b, len_s, len_t, len_k, max_ii, min_ii, tr_b, tr_i, tr_s, tr_n, ie_i, is_i, isnt_i, ie_s, is_s, isnt_s, ie_b, is_b, isnt_b, ie_t, is_t, isnt_t, ie_l, is_l, isnt_l, ie_k, is_k, isnt_k, ie_n, is_n, isnt_n, ie_e, in_ss, nin_ss, sub_si, sub_ti, kst, end_rt, end_nx]
    exact ⟨by omega, hq _ _ ⟨_, rfl, Int.emod_nonneg _ (by omega), fun _ => Int.emod_lt_of_pos _ (by omega), fun e => by omega⟩ st3 (ex2.trans ex3)⟩
theorem sp_edge {n L N : Nat} {m : Int} {S : Store} {Q : D → Store → Prop} {E : Nat → List D → Store → Prop} (h : StO L N S) (hm : m < 2 ^ 63) (hq : ∀ r S', Rnd m r → StO L N S' → Ex L S S' → Q r S') : Wp (callF LT (n + 3) i_edge [.loc L, .int m]) S Q E := by
  rw [e_edge]
  unfold c_edge
  refine wp_def (wp_seq ?_)
  unfold c_edge_0
  refine wp_ite ?_
  simp only [eq_self, decide_true, decide_false, Bool.not_true, Bool.not_false, true_and, and_true, wp_isi, isK, List.any_cons, List.any_nil, Bool.or_false, Bool.false_or, Bool.or_true, Bool.true_or, setS, retS, exprS, cstE, op1E, op2E, opnE, consA, nilA, valT, andT, orT, notT, iteE, andE, orE, notE, callE, methE, m0, m1, one, skipS, brkS, cntS, raiseS, subS, parS, var0, set0, var1, set1, var2, set2, var3, set3, var4, set4, var5, set5, var6, set6, var7, set7, var8, set8, var9, set9, var10, set10, var11, set11, var12, set12, var13, set13, var14, set14, var15, set15, var16, set16, var17, set17, var18, set18, var19, set19, wp_bnd, wpr, wpe, wp_chk, bndr, bnde, List.append_nil, List.nil_append, List.cons_append, cond_true, cond_false, decide_eq_true_eq, slc_s1, slc_s2, slc_s3, slc_t1, slc_t2, slc_t3, slc_l1, slc_l2, slc_l3, chk_i, sliceE, add_ii, sub_ii, mul_ii, fdiv_ii, mod_ii, pow_ii, eq_ii, ne_ii, lt_ii, le_ii, gt_ii, ge_ii, add_ss, add_tt, mul_si, eq_ss, ne_ss, eq_bb, neg_i, abs_i, int_i, int_b, len_s, len_t, len_k, max_ii, min_ii, tr_b, tr_i, tr_s, tr_n, ie_i, is_i, isnt_i, ie_s, is_s, isnt_s, ie_b, is_b, isnt_b, ie_t, is_t, isnt_t, ie_l, is_l, isnt_l, ie_k, is_k, isnt_k, ie_n, is_n, isnt_n, ie_e, in_ss, nin_ss, sub_si, sub_ti, kst, end_rt, end_nx]
  refine ⟨fun hlt => ?_, fun hge => ?_⟩
  · unfold c_edge_1
    simp only [eq_self, decide_true, decide_false, Bool.not_true, Bool.not_false, true_and, and_true, wp_isi, isK, List.any_cons, List.any_nil, Bool.or_false, Bool.false_or, Bool.or_true, Bool.true_or, setS, retS, exprS, cstE, op1E, op2E, opnE, consA, nilA, valT, andT, orT, notT, iteE, andE, orE, notE, callE, methE, m0, m1, one, skipS, brkS, cntS, raiseS, subS, parS, var0, set0, var1, set1, var2, set2, var3, set3, var4, set4, var5, set5, var6, set6, var7, set7, var8, set8, var9, set9, var10, set10, var11, set11, var12, set12, var13, set13, var14, set14, var15, set15, var16, set16, var17, set17, var18, set18, var19, set19, wp_bnd, wpr, wpe, wp_chk, bndr, bnde, List.append_nil, List.nil_append, List.cons_append, cond_true, cond_false, decide_eq_true_eq, slc_s1, slc_s2, slc_s3, slc_t1, slc_t2, slc_t3, slc_l1, slc_l2, slc_l3, chk_i, sliceE, add_ii, sub_ii, mul_ii, fdiv_ii, mod_ii, pow_ii, eq_ii, ne_ii, lt_ii, le_ii, gt_ii, ge_ii, add_ss, add_tt, mul_si, eq_ss, ne_ss, eq_bb, neg_i, abs_i, int_i, int_b, len_s, len_t, len_k, max_ii, min_ii, tr_b, tr_i, tr_s, tr_n, ie_i, is_i, isnt_i, ie_s, is_s, isnt_s, ie_b, is_b, isnt_b, ie_t, is_t, isnt_t, ie_l, is_l, isnt_l, ie_k, is_k, isnt_k, ie_n, is_n, isnt_n, ie_e, in_ss, nin_ss, sub_si, sub_ti, kst, end_rt, end_nx]
    exact hq _ _ ⟨0, rfl, Int.le_refl _, fun z => by omega, fun _ => rfl⟩ h .refl
  have hge : 2 ≤ m := by simpa using hge
  refine wp_seq ?_
  unfold c_edge_2
  simp only [eq_self, decide_true, decide_false, Bool.not_true, Bool.not_false, true_and, and_true, wp_isi, isK, List.any_cons, List.any_nil, Bool.or_false, Bool.false_or, Bool.or_true, Bool.true_or, setS, retS, exprS, cstE, op1E, op2E, opnE, consA, nilA, valT, andT, orT, notT, iteE, andE, orE, notE, callE, methE, m0, m1, one, skipS, brkS, cntS, raiseS, subS, parS, var0, set0, var1, set1, var2, set2, var3, set3, var4, set4, var5, set5, var6, set6, var7, set7, var8, set8, var9, set9, var10, set10, var11, set11, var12, set12, var13, set13, var14, set14, var15, set15, var16, set16, var17, set17, var18, set18, var19, set19, wp_bnd, wpr, wpe, wp_chk, bndr, bnde, List.append_nil, List.nil_append, List.cons_append, cond_true, cond_false, decide_eq_true_eq, slc_s1, slc_s2, slc_s3, slc_t1, slc_t2, slc_t3, slc_l1, slc_l2, slc_l3, chk_i, sliceE, add_ii, sub_ii, mul_ii, fdiv_ii, mod_ii, pow_ii, eq_ii, ne_ii, lt_ii, le_ii, gt_ii, ge_ii, add_ss, add_tt, mul_si, eq_ss, ne_ss, eq_bb, neg_i, abs_i, int_i, int_b, len_s, len_t, len_k, max_ii, min_ii, tr_b, tr_i, tr_s, tr_n, ie_i, is_i, isnt_i, ie_s, is_s, isnt_s, ie_b, is_b, isnt_b, ie_t, is_t, isnt_t, ie_l, is_l, isnt_l, ie_k, is_k, isnt_k, ie_n, is_n, isnt_n, ie_e, in_ss, nin_ss, sub_si, sub_ti, kst, end_rt, end_nx]
  refine sp_take h (by decide) fun r S1 ⟨k, er, k0, k1, _⟩ st1 ex1 => ?_
  subst er
  have k1 := k1 (by decide)
  simp only [eq_self, decide_true, decide_false, Bool.not_true, Bool.not_false, true_and, and_true, wp_isi, isK, List.any_cons, List.any_nil, Bool.or_false, Bool.false_or, Bool.or_true, Bool.true_or, setS, retS, exprS, cstE, op1E, op2E, opnE, consA, nilA, valT, andT, orT, notT, iteE, andE, orE, notE, callE, methE, m0, m1, one, skipS, brkS, cntS, raiseS, subS, parS, var0, set0, var1, set1, var2, set2, var3, set3, var4, set4, var5, set5, var6, set6, var7, set7, var8, set8, var9, set9, var10, set10, var11, set11, var12, set12, var13, set13, var14, set14, var15, set15, var16, set16, var17, set17, var18, set18, var19, set19, wp_bnd, wpr, wpe, wp_chk, bndr, bnde, List.append_nil, List.nil_append, List.cons_append, cond_true, cond_false, decide_eq_true_eq, slc_s1, slc_s2, slc_s3, slc_t1, slc_t2, slc_t3, slc_l1, slc_l2, slc_l3, chk_i, sliceE, add_ii, sub_ii, mul_ii, fdiv_ii, mod_ii, pow_ii, eq_ii, ne_ii, lt_ii, le_ii, gt_ii, ge_ii, add_ss, add_tt, mul_si, eq_ss, ne_ss, eq_bb, neg_i, abs_i, int_i, int_b, len_s, len_t, len_k, max_ii, min_ii, tr_b, tr_i, tr_s, tr_n, ie_i, is_i, isnt_i, ie_s, is_s, isnt_s, ie_b, is_b, isnt_b, ie_t, is_t, isnt_t, ie_l, is_l, isnt_l, ie_k, is_k, isnt_k, ie_n, is_n, isnt_n, ie_e, in_ss, nin_ss, sub_si, sub_ti, kst, end_rt, end_nx]
  refine wp_seq ?_
  unfold c_edge_3
  refine wp_ite ?_
  simp only [eq_self, decide_true, decide_false, Bool.not_true, Bool.not_false, true_and, and_true, wp_isi, isK, List.any_cons, List.any_nil, Bool.or_false, Bool.false_or, Bool.or_true, Bool.true_or, setS, retS, exprS, cstE, op1E, op2E, opnE, consA, nilA, valT, andT, orT, notT, iteE, andE, orE, notE, callE, methE, m0, m1, one, skipS, brkS, cntS, raiseS, subS, parS, var0, set0, var1, set1, var2, set2, var3, set3, var4, set4, var5, set5, var6, set6, var7, set7, var8, set8, var9, set9, var10, set10, var11, set11, var12, set12, var13, set13, var14, set14, var15, set15, var16, set16, var17, set17, var18, set18, var19, set19, wp_bnd, wpr, wpe, wp_chk, bndr, bnde, List.append_nil, List.nil_append, List.cons_append, cond_true, cond_false, decide_eq_true_eq, slc_s1, slc_s2, slc_s3, slc_t1, slc_t2, slc_t3, slc_l1, slc_l2, slc_l3, chk_i, sliceE, add_ii, sub_ii, mul_ii, fdiv_ii, mod_ii, pow_ii, eq_ii, ne_ii, lt_ii, le_ii, gt_ii, ge_ii, add_ss, add_tt, mul_si, eq_ss, ne_ss, eq_bb, neg_i, abs_i, int_i, int_b, len_s, len_t, len_k, max_ii, min_ii, tr_b, tr_i, tr_s, tr_n, ie_i, is_i, isnt_i, ie_s, is_s, isnt_s, ie_b, is_b, isnt_b, ie_t, is_t, isnt_t, ie_l, is_l, isnt_l, ie_k, is_k, isnt_k, ie_n, is_n, isnt_n, ie_e, in_ss, nin_ss, sub_si, sub_ti, kst, end_rt, end_nx]
  refine ⟨fun _ => ?_, fun _ => wp_seq ?_⟩
  · unfold c_edge_4
    simp only [eq_self, decide_true, decide_false, Bool.not_true, Bool.not_false, true_and, and_true, wp_isi, isK, List.any_cons, List.any_nil, Bool.or_false, Bool.false_or, Bool.or_true, Bool.true_or, setS, retS, exprS, cstE, op1E, op2E, opnE, consA, nilA, valT, andT, orT, notT, iteE, andE, orE, notE, callE, methE, m0, m1, one, skipS, brkS, cntS, raiseS, subS, parS, var0, set0, var1, set1, var2, set2, var3, set3, var4, set4, var5, set5, var6, set6, var7, set7, var8, set8, var9, set9, var10, set10, var11, set11, var12, set12, var13, set13, var14, set14, var15, set15, var16, set16, var17, set17, var18, set18, var19, set19, wp_bnd, wpr, wpe, wp_chk, bndr, bnde, List.append_nil, List.nil_append, List.cons_append, cond_true, cond_false, decide_eq_true_eq, slc_s1, slc_s2, slc_s3, slc_t1, slc_t2, slc_t3, slc_l1, slc_l2, slc_l3, chk_i, sliceE, add_ii, sub_ii, mul_ii, fdiv_ii, mod_ii, pow_ii, eq_ii, ne_ii, lt_ii, le_ii, gt_ii, ge_ii, add_ss, add_tt, mul_si, eq_ss, ne_ss, eq_bb, neg_i, abs_i, int_i, int_b, len_s, len_t, len_k, max_ii, min_ii, tr_b, tr_i, tr_s, tr_n, ie_i, is_i, isnt_i, ie_s, is_s, isnt_s, ie_b, is_b, isnt_b, ie_t, is_t, isnt_t, ie_l, is_l, isnt_l, ie_k, is_k, isnt_k, ie_n, is_n, isnt_n, ie_e, in_ss, nin_ss, sub_si, sub_ti, kst, end_rt, end_nx]
    exact hq _ _ ⟨0, rfl, Int.le_refl _, fun z => by omega, fun _ => rfl⟩ st1 ex1
  unfold c_edge_5
  refine wp_ite ?_
  simp only [eq_self, decide_true, decide_false, Bool.not_true, Bool.not_false, true_and, and_true, wp_isi, isK, List.any_cons, List.any_nil, Bool.or_false, Bool.false_or, Bool.or_true, Bool.true_or, setS, retS, exprS, cstE, op1E, op2E, opnE, consA, nilA, valT, andT, orT, notT, iteE, andE, orE, notE, callE, methE, m0, m1, one, skipS, brkS, cntS, raiseS, subS, parS, var0, set0, var1, set1, var2, set2, var3, set3, var4, set4, var5, set5, var6, set6, var7, set7, var8, set8, var9, set9, var10, set10, var11, set11, var12, set12, var13, set13, var14, set14, var15, set15, var16, set16, var17, set17, var18, set18, var19, set19, wp_bnd, wpr, wpe, wp_chk, bndr, bnde, List.append_nil, List.nil_append, List.cons_append, cond_true, cond_false, decide_eq_true_eq, slc_s1, slc_s2, slc_s3, slc_t1, slc_t2, slc_t3, slc_l1, slc_l2, slc_l3, chk_i, sliceE, add_ii, sub_ii, mul_ii, fdiv_ii, mod_ii, pow_ii, eq_ii, ne_ii, lt_ii, le_ii, gt_ii, ge_ii, add_ss, add_tt, mul_si, eq_ss, ne_ss, eq_bb, neg_i, abs_i, int_i, int_b, len_s, len_t, len_k, max_ii, min_ii, tr_b, tr_i, tr_s, tr_n, ie_i, is_i, isnt_i, ie_s, is_s, isnt_s, ie_b, is_b, isnt_b, ie_t, is_t, isnt_t, ie_l, is_l, isnt_l, ie_k, is_k, isnt_k, ie_n, is_n, isnt_n, ie_e, in_ss, nin_ss, sub_si, sub_ti, kst, end_rt, end_nx]
  refine ⟨fun _ => ?_, fun _ => ?_⟩
  · unfold c_edge_6
    simp only [eq_self, decide_true, decide_false, Bool.not_true, Bool.not_false, true_and, and_true, wp_isi, isK, List.any_cons, List.any_nil, Bool.or_false, Bool.false_or, Bool.or_true, Bool.true_or, setS, retS, exprS, cstE, op1E, op2E, opnE, consA, nilA, valT, andT, orT, notT, iteE, andE, orE, notE, callE, methE, m0, m1, one, skipS, brkS, cntS, raiseS, subS, parS, var0, set0, var1, set1, var2, set2, var3, set3, var4, set4, var5, set5, var6, set6, var7, set7, var8, set8, var9, set9, var10, set10, var11, set11, var12, set12, var13, set13, var14, set14, var15, set15, var16, set16, var17, set17, var18, set18, var19, set19, wp_bnd, wpr, wpe, wp_chk, bndr, bnde, List.append_nil, List.nil_append, List.cons_append, cond_true, cond_false, decide_eq_true_eq, slc_s1, slc_s2, slc_s3, slc_t1, slc_t2, slc_t3, slc_l1, slc_l2, slc_l3, chk_i, sliceE, add_ii, sub_ii, mul_ii, fdiv_ii, mod_ii, pow_ii, eq_ii, ne_ii, lt_ii, le_ii, gt_ii, ge_ii, add_ss, add_tt, mul_si, eq_ss, ne_ss, eq_bb, neg_i, abs_i, int_i, int_b, len_s, len_t, len_k, max_ii, min_ii, tr_b, tr_i, tr_s, tr_n, ie_i, is_i, isnt_i, ie_s, is_s, isnt_s, ie_b, is_b, isnt_b, ie_t, is_t, isnt_t, ie_l, is_l, isnt_l, ie_k, is_k, isnt_k, ie_n, is_n, isnt_n, ie_e, in_ss, nin_ss, sub_si, sub_ti, kst, end_rt, end_nx]
    exact hq _ _ ⟨_, rfl, by omega, fun z => by omega, fun z => by omega⟩ st1 ex1
  · unfold c_edge_7
    simp only [eq_self, decide_true, decide_false, Bool.not_true, Bool.not_false, true_and, and_true, wp_isi, isK, List.any_cons, List.any_nil, Bool.or_false, Bool.false_or, Bool.or_true, Bool.true_or, setS, retS, exprS, cstE, op1E, op2E, opnE, consA, nilA, valT, andT, orT, notT, iteE, andE, orE, notE, callE, methE, m0, m1, one, skipS, brkS, cntS, raiseS, subS, parS, var0, set0, var1, set1, var2, set2, var3, set3, var4, set4, var5, set5, var6, set6, var7, set7, var8, set8, var9, set9, var10, set10, var11, set11, var12, set12, var13, set13, var14, set14, var15, set15, var16, set16, var17, set17, var18, set18, var19, set19, wp_bnd, wpr, wpe, wp_chk, bndr, bnde, List.append_nil, List.nil_append, List.cons_append, cond_true, cond_false, decide_eq_true_eq, slc_s1, slc_s2, slc_s3, slc_t1, slc_t2, slc_t3, slc_l1, slc_l2, slc_l3, chk_i, sliceE, add_ii, sub_ii, mul_ii, fdiv_ii, mod_ii, pow_ii, eq_ii, ne_ii, lt_ii, le_ii, gt_ii, ge_ii, add_ss, add_tt, mul_si, eq_ss, ne_ss, eq_bb, neg_i, abs_i, int_i, int_b, len_s, len_t, len_k, max_ii, min_ii, tr_b, tr_i, tr_s, tr_n, ie_i, is_i, isnt_i, ie_s, is_s, isnt_s, ie_b, is_b, isnt_b, ie_t, is_t, isnt_t, ie_l, is_l, isnt_l, ie_k, is_k, isnt_k, ie_n, is_n, isnt_n, ie_e, in_ss, nin_ss, sub_si, sub_ti, kst, end_rt, end_nx]
    refine sp_take st1 hm fun r S2 h2 st2 ex2 => ?_
    have q := hq _ _ h2 st2 (ex1.trans ex2)
    obtain ⟨i, er, _⟩ := h2
    subst er
    simp only [eq_self, decide_true, decide_false, Bool.not_true, Bool.not_false, true_and, and_true, wp_isi, isK, List.any_cons, List.any_nil, Bool.or_false, Bool.false_or, Bool.or_true, Bool.true_or, setS, retS, exprS, cstE, op1E, op2E, opnE, consA, nilA, valT, andT, orT, notT, iteE, andE, orE, notE, callE, methE, m0, m1, one, skipS, brkS, cntS, raiseS, subS, parS, var0, set0, var1, set1, var2, set2, var3, set3, var4, set4, var5, set5, var6, set6, var7, set7, var8, set8, var9, set9, var10, set10, var11, set11, var12, set12, var13, set13, var14, set14, var15, set15, var16, set16, var17, set17, var18, set18, var19, set19, wp_bnd, wpr, wpe, wp_chk, bndr, bnde, List.append_nil, List.nil_append, List.cons_append, cond_true, cond_false, decide_eq_true_eq, slc_s1, slc_s2, slc_s3, slc_t1, slc_t2, slc_t3, slc_l1, slc_l2, slc_l3, chk_i, sliceE, add_ii, sub_ii, mul_ii, fdiv_ii, mod_ii, pow_ii, eq_ii, ne_ii, lt_ii, le_ii, gt_ii, ge_ii, add_ss, add_tt, mul_si, eq_ss, ne_ss, eq_bb, neg_i, abs_i, int_i, int_b, len_s, len_t, len_k, max_ii, min_ii, tr_b, tr_i, tr_s, tr_n, ie_i, is_i, isnt_i, ie_s, is_s, isnt_s, ie_b, is_b, isnt_b, ie_t, is_t, isnt_t, ie_l, is_l, isnt_l, ie_k, is_k, isnt_k, ie_n, is_n, isnt_n, ie_e, in_ss, nin_ss, sub_si, sub_ti, kst, end_rt, end_nx]
    exact q

/-! ### same -/
theorem same_list {n : Nat} {xs ys : List D} {a b : D} {S : Store} {Q : D → Store → Prop} {E : Nat → List D → Store → Prop}
    (la : ∀ Q, Q (.int xs.length) S → Wp (lenD a) S Q E) (lb : ∀ Q, Q (.int ys.length) S → Wp (lenD b) S Q E)
    (ga : ∀ (k : Nat) x Q, xs[k]? = some x → Q x S → Wp (subsD a (.int k)) S Q E) (gb : ∀ (k : Nat) x Q, ys[k]? = some x → Q x S → Wp (subsD b (.int k)) S Q E)
    (hl : xs.length = ys.length) (hz : ys.length ≤ 16777216)
    (hs : ∀ (k : Nat) x y Q, xs[k]? = some x → ys[k]? = some y → Q (.bl true) S → Wp (callF LT n i_same [x, y]) S Q E) (hq : Q (.bl true) S) :
    Wp (seqS (c_same_13 (callF LT n)) (seqS (c_same_15 (callF LT n)) (c_same_18 (callF LT n))) [some a, some b, none]) S (fun f S' => match f with
      | .rt d => Q d S'
      | .nx _ => Q .non S'
      | _ => False) E := by
  refine wp_seq ?_
  unfold c_same_13
  refine wp_ite ?_
  simp only [eq_self, decide_true, decide_false, Bool.not_true, Bool.not_false, true_and, and_true, wp_isi, isK, List.any_cons, List.any_nil, Bool.or_false, Bool.false_or, Bool.or_true, Bool.true_or, setS, retS, exprS, cstE, op1E, op2E, opnE, consA, nilA, valT, andT, orT, notT, iteE, andE, orE, notE, callE, methE, m0, m1, one, skipS, brkS, cntS, raiseS, subS, parS, var0, set0, var1, set1, var2, set2, var3, set3, var4, set4, var5, set5, var6, set6, var7, set7, var8, set8, var9, set9, var10, set10, var11, set11, var12, set12, var13, set13, var14, set14, var15, set15, var16, set16, var17, set17, var18, set18, var19, set19, wp_bnd, wpr, wpe, wp_chk, bndr, bnde, List.append_nil, List.nil_append, List.cons_append, cond_true, cond_false, decide_eq_true_eq, slc_s1, slc_s2, slc_s3, slc_t1, slc_t2, slc_t3, slc_l1, slc_l2, slc_l3, chk_i, sliceE, add_ii, sub_ii, mul_ii, fdiv_ii, mod_ii, pow_ii, eq_ii, ne_ii, lt_ii, le_ii, gt_ii, ge_ii, add_ss, add_tt, mul_si, eq_ss, ne_ss, eq_bb, neg_i, abs_i, int_i, int_b, len_s, len_t, len_k, max_ii, min_ii, tr_b, tr_i, tr_s, tr_n, ie_i, is_i, isnt_i, ie_s, is_s, isnt_s, ie_b, is_b, isnt_b, ie_t, is_t, isnt_t, ie_l, is_l, isnt_l, ie_k, is_k, isnt_k, ie_n, is_n, isnt_n, ie_e, in_ss, nin_ss, sub_si, sub_ti, kst, end_rt, end_nx]
  refine la _ (lb _ ?_)
  simp only [eq_self, decide_true, decide_false, Bool.not_true, Bool.not_false, true_and, and_true, wp_isi, isK, List.any_cons, List.any_nil, Bool.or_false, Bool.false_or, Bool.or_true, Bool.true_or, setS, retS, exprS, cstE, op1E, op2E, opnE, consA, nilA, valT, andT, orT, notT, iteE, andE, orE, notE, callE, methE, m0, m1, one, skipS, brkS, cntS, raiseS, subS, parS, var0, set0, var1, set1, var2, set2, var3, set3, var4, set4, var5, set5, var6, set6, var7, set7, var8, set8, var9, set9, var10, set10, var11, set11, var12, set12, var13, set13, var14, set14, var15, set15, var16, set16, var17, set17, var18, set18, var19, set19, wp_bnd, wpr, wpe, wp_chk, bndr, bnde, List.append_nil, List.nil_append, List.cons_append, cond_true, cond_false, decide_eq_true_eq, slc_s1, slc_s2, slc_s3, slc_t1, slc_t2, slc_t3, slc_l1, slc_l2, slc_l3, chk_i, sliceE, add_ii, sub_ii, mul_ii, fdiv_ii, mod_ii, pow_ii, eq_ii, ne_ii, lt_ii, le_ii, gt_ii, ge_ii, add_ss, add_tt, mul_si, eq_ss, ne_ss, eq_bb, neg_i, abs_i, int_i, int_b, len_s, len_t, len_k, max_ii, min_ii, tr_b, tr_i, tr_s, tr_n, ie_i, is_i, isnt_i, ie_s, is_s, isnt_s, ie_b, is_b, isnt_b, ie_t, is_t, isnt_t, ie_l, is_l, isnt_l, ie_k, is_k, isnt_k, ie_n, is_n, isnt_n, ie_e, in_ss, nin_ss, sub_si, sub_ti, kst, end_rt, end_nx]
  refine ⟨fun z => ?_, fun _ => wp_seq ?_⟩
  · rw [hl] at z; simp at z
  unfold c_same_15
  refine wp_forR ?_
  simp only [eq_self, decide_true, decide_false, Bool.not_true, Bool.not_false, true_and, and_true, wp_isi, isK, List.any_cons, List.any_nil, Bool.or_false, Bool.false_or, Bool.or_true, Bool.true_or, setS, retS, exprS, cstE, op1E, op2E, opnE, consA, nilA, valT, andT, orT, notT, iteE, andE, orE, notE, callE, methE, m0, m1, one, skipS, brkS, cntS, raiseS, subS, parS, var0, set0, var1, set1, var2, set2, var3, set3, var4, set4, var5, set5, var6, set6, var7, set7, var8, set8, var9, set9, var10, set10, var11, set11, var12, set12, var13, set13, var14, set14, var15, set15, var16, set16, var17, set17, var18, set18, var19, set19, wp_bnd, wpr, wpe, wp_chk, bndr, bnde, List.append_nil, List.nil_append, List.cons_append, cond_true, cond_false, decide_eq_true_eq, slc_s1, slc_s2, slc_s3, slc_t1, slc_t2, slc_t3, slc_l1, slc_l2, slc_l3, chk_i, sliceE, add_ii, sub_ii, mul_ii, fdiv_ii, mod_ii, pow_ii, eq_ii, ne_ii, lt_ii, le_ii, gt_ii, ge_ii, add_ss, add_tt, mul_si, eq_ss, ne_ss, eq_bb, neg_i, abs_i, int_i, int_b, len_s, len_t, len_k, max_ii, min_ii, tr_b, tr_i, tr_s, tr_n, ie_i, is_i, isnt_i, ie_s, is_s, isnt_s, ie_b, is_b, isnt_b, ie_t, is_t, isnt_t, ie_l, is_l, isnt_l, ie_k, is_k, isnt_k, ie_n, is_n, isnt_n, ie_e, in_ss, nin_ss, sub_si, sub_ti, kst, end_rt, end_nx]
  refine lb _ ?_
  refine ⟨_, rfl, rgOk_s hz, wp_rgGo (fun _ δ S' => S' = S ∧ ∃ k, δ = [some a, some b, k]) ⟨rfl, _, rfl⟩ (fun i δ S' hi ⟨e, k, eδ⟩ => ?_) (fun δ S' ⟨e, k, eδ⟩ => ?_)⟩
  · subst e eδ
    have hi : i < ys.length := by omega
    unfold c_same_16
    refine wp_ite ?_
    simp only [eq_self, decide_true, decide_false, Bool.not_true, Bool.not_false, true_and, and_true, wp_isi, isK, List.any_cons, List.any_nil, Bool.or_false, Bool.false_or, Bool.or_true, Bool.true_or, setS, retS, exprS, cstE, op1E, op2E, opnE, consA, nilA, valT, andT, orT, notT, iteE, andE, orE, notE, callE, methE, m0, m1, one, skipS, brkS, cntS, raiseS, subS, parS, var0, set0, var1, set1, var2, set2, var3, set3, var4, set4, var5, set5, var6, set6, var7, set7, var8, set8, var9, set9, var10, set10, var11, set11, var12, set12, var13, set13, var14, set14, var15, set15, var16, set16, var17, set17, var18, set18, var19, set19, wp_bnd, wpr, wpe, wp_chk, bndr, bnde, List.append_nil, List.nil_append, List.cons_append, cond_true, cond_false, decide_eq_true_eq, slc_s1, slc_s2, slc_s3, slc_t1, slc_t2, slc_t3, slc_l1, slc_l2, slc_l3, chk_i, sliceE, add_ii, sub_ii, mul_ii, fdiv_ii, mod_ii, pow_ii, eq_ii, ne_ii, lt_ii, le_ii, gt_ii, ge_ii, add_ss, add_tt, mul_si, eq_ss, ne_ss, eq_bb, neg_i, abs_i, int_i, int_b, len_s, len_t, len_k, max_ii, min_ii, tr_b, tr_i, tr_s, tr_n, ie_i, is_i, isnt_i, ie_s, is_s, isnt_s, ie_b, is_b, isnt_b, ie_t, is_t, isnt_t, ie_l, is_l, isnt_l, ie_k, is_k, isnt_k, ie_n, is_n, isnt_n, ie_e, in_ss, nin_ss, sub_si, sub_ti, kst, end_rt, end_nx, List.set]
    refine ga i _ _ (List.getElem?_eq_getElem (hl ▸ hi)) (gb i _ _ (List.getElem?_eq_getElem hi) ?_)
    refine hs i _ _ _ (List.getElem?_eq_getElem (hl ▸ hi)) (List.getElem?_eq_getElem hi) ?_
    simp only [eq_self, decide_true, decide_false, Bool.not_true, Bool.not_false, true_and, and_true, wp_isi, isK, List.any_cons, List.any_nil, Bool.or_false, Bool.false_or, Bool.or_true, Bool.true_or, setS, retS, exprS, cstE, op1E, op2E, opnE, consA, nilA, valT, andT, orT, notT, iteE, andE, orE, notE, callE, methE, m0, m1, one, skipS, brkS, cntS, raiseS, subS, parS, var0, set0, var1, set1, var2, set2, var3, set3, var4, set4, var5, set5, var6, set6, var7, set7, var8, set8, var9, set9, var10, set10, var11, set11, var12, set12, var13, set13, var14, set14, var15, set15, var16, set16, var17, set17, var18, set18, var19, set19, wp_bnd, wpr, wpe, wp_chk, bndr, bnde, List.append_nil, List.nil_append, List.cons_append, cond_true, cond_false, decide_eq_true_eq, slc_s1, slc_s2, slc_s3, slc_t1, slc_t2, slc_t3, slc_l1, slc_l2, slc_l3, chk_i, sliceE, add_ii, sub_ii, mul_ii, fdiv_ii, mod_ii, pow_ii, eq_ii, ne_ii, lt_ii, le_ii, gt_ii, ge_ii, add_ss, add_tt, mul_si, eq_ss, ne_ss, eq_bb, neg_i, abs_i, int_i, int_b, len_s, len_t, len_k, max_ii, min_ii, tr_b, tr_i, tr_s, tr_n, ie_i, is_i, isnt_i, ie_s, is_s, isnt_s, ie_b, is_b, isnt_b, ie_t, is_t, isnt_t, ie_l, is_l, isnt_l, ie_k, is_k, isnt_k, ie_n, is_n, isnt_n, ie_e, in_ss, nin_ss, sub_si, sub_ti, kst, end_rt, end_nx]
    exact ⟨(fun e => by cases e), fun _ => ⟨rfl, _, rfl⟩⟩
  · subst e eδ
    unfold c_same_18
    simp only [eq_self, decide_true, decide_false, Bool.not_true, Bool.not_false, true_and, and_true, wp_isi, isK, List.any_cons, List.any_nil, Bool.or_false, Bool.false_or, Bool.or_true, Bool.true_or, setS, retS, exprS, cstE, op1E, op2E, opnE, consA, nilA, valT, andT, orT, notT, iteE, andE, orE, notE, callE, methE, m0, m1, one, skipS, brkS, cntS, raiseS, subS, parS, var0, set0, var1, set1, var2, set2, var3, set3, var4, set4, var5, set5, var6, set6, var7, set7, var8, set8, var9, set9, var10, set10, var11, set11, var12, set12, var13, set13, var14, set14, var15, set15, var16, set16, var17, set17, var18, set18, var19, set19, wp_bnd, wpr, wpe, wp_chk, bndr, bnde, List.append_nil, List.nil_append, List.cons_append, cond_true, cond_false, decide_eq_true_eq, slc_s1, slc_s2, slc_s3, slc_t1, slc_t2, slc_t3, slc_l1, slc_l2, slc_l3, chk_i, sliceE, add_ii, sub_ii, mul_ii, fdiv_ii, mod_ii, pow_ii, eq_ii, ne_ii, lt_ii, le_ii, gt_ii, ge_ii, add_ss, add_tt, mul_si, eq_ss, ne_ss, eq_bb, neg_i, abs_i, int_i, int_b, len_s, len_t, len_k, max_ii, min_ii, tr_b, tr_i, tr_s, tr_n, ie_i, is_i, isnt_i, ie_s, is_s, isnt_s, ie_b, is_b, isnt_b, ie_t, is_t, isnt_t, ie_l, is_l, isnt_l, ie_k, is_k, isnt_k, ie_n, is_n, isnt_n, ie_e, in_ss, nin_ss, sub_si, sub_ti, kst, end_rt, end_nx]
    exact hq
mutual
theorem sp_same : ∀ (p : PD) {n : Nat} {a b : D} {S : Store} {Q : D → Store → Prop} {E : Nat → List D → Store → Prop}, p.depth ≤ n → isP S p a → isP S p b → Q (.bl true) S → Wp (callF LT (n + 1) i_same [a, b]) S Q E
  | .non, n, a, b, S, Q, E, _, ha, hb, hq => by
    unfold isP at ha hb
    subst ha hb
    rw [e_same]
    unfold c_same c_same_0 c_same_1
    refine wp_def (wp_seq (wp_ite ?_))
    simp only [eq_self, decide_true, decide_false, Bool.not_true, Bool.not_false, true_and, and_true, wp_isi, isK, List.any_cons, List.any_nil, Bool.or_false, Bool.false_or, Bool.or_true, Bool.true_or, setS, retS, exprS, cstE, op1E, op2E, opnE, consA, nilA, valT, andT, orT, notT, iteE, andE, orE, notE, callE, methE, m0, m1, one, skipS, brkS, cntS, raiseS, subS, parS, var0, set0, var1, set1, var2, set2, var3, set3, var4, set4, var5, set5, var6, set6, var7, set7, var8, set8, var9, set9, var10, set10, var11, set11, var12, set12, var13, set13, var14, set14, var15, set15, var16, set16, var17, set17, var18, set18, var19, set19, wp_bnd, wpr, wpe, wp_chk, bndr, bnde, List.append_nil, List.nil_append, List.cons_append, cond_true, cond_false, decide_eq_true_eq, slc_s1, slc_s2, slc_s3, slc_t1, slc_t2, slc_t3, slc_l1, slc_l2, slc_l3, chk_i, sliceE, add_ii, sub_ii, mul_ii, fdiv_ii, mod_ii, pow_ii, eq_ii, ne_ii, lt_ii, le_ii, gt_ii, ge_ii, add_ss, add_tt, mul_si, eq_ss, ne_ss, eq_bb, neg_i, abs_i, int_i, int_b, len_s, len_t, len_k, max_ii, min_ii, tr_b, tr_i, tr_s, tr_n, ie_i, is_i, isnt_i, ie_s, is_s, isnt_s, ie_b, is_b, isnt_b, ie_t, is_t, isnt_t, ie_l, is_l, isnt_l, ie_k, is_k, isnt_k, ie_n, is_n, isnt_n, ie_e, in_ss, nin_ss, sub_si, sub_ti, kst, end_rt, end_nx]
    exact ⟨fun _ => hq, fun z => by cases z⟩
  | .bl x, n, a, b, S, Q, E, _, ha, hb, hq => by
    unfold isP at ha hb
    subst ha hb
    rw [e_same]
    unfold c_same c_same_0 c_same_2 c_same_3
    refine wp_def (wp_seq (wp_ite ?_))
    simp only [eq_self, decide_true, decide_false, Bool.not_true, Bool.not_false, true_and, and_true, wp_isi, isK, List.any_cons, List.any_nil, Bool.or_false, Bool.false_or, Bool.or_true, Bool.true_or, setS, retS, exprS, cstE, op1E, op2E, opnE, consA, nilA, valT, andT, orT, notT, iteE, andE, orE, notE, callE, methE, m0, m1, one, skipS, brkS, cntS, raiseS, subS, parS, var0, set0, var1, set1, var2, set2, var3, set3, var4, set4, var5, set5, var6, set6, var7, set7, var8, set8, var9, set9, var10, set10, var11, set11, var12, set12, var13, set13, var14, set14, var15, set15, var16, set16, var17, set17, var18, set18, var19, set19, wp_bnd, wpr, wpe, wp_chk, bndr, bnde, List.append_nil, List.nil_append, List.cons_append, cond_true, cond_false, decide_eq_true_eq, slc_s1, slc_s2, slc_s3, slc_t1, slc_t2, slc_t3, slc_l1, slc_l2, slc_l3, chk_i, sliceE, add_ii, sub_ii, mul_ii, fdiv_ii, mod_ii, pow_ii, eq_ii, ne_ii, lt_ii, le_ii, gt_ii, ge_ii, add_ss, add_tt, mul_si, eq_ss, ne_ss, eq_bb, neg_i, abs_i, int_i, int_b, len_s, len_t, len_k, max_ii, min_ii, tr_b, tr_i, tr_s, tr_n, ie_i, is_i, isnt_i, ie_s, is_s, isnt_s, ie_b, is_b, isnt_b, ie_t, is_t, isnt_t, ie_l, is_l, isnt_l, ie_k, is_k, isnt_k, ie_n, is_n, isnt_n, ie_e, in_ss, nin_ss, sub_si, sub_ti, kst, end_rt, end_nx]
    refine ⟨(fun z => by cases z), fun _ => wp_seq (wp_ite ?_)⟩
    simp only [eq_self, decide_true, decide_false, Bool.not_true, Bool.not_false, true_and, and_true, wp_isi, isK, List.any_cons, List.any_nil, Bool.or_false, Bool.false_or, Bool.or_true, Bool.true_or, setS, retS, exprS, cstE, op1E, op2E, opnE, consA, nilA, valT, andT, orT, notT, iteE, andE, orE, notE, callE, methE, m0, m1, one, skipS, brkS, cntS, raiseS, subS, parS, var0, set0, var1, set1, var2, set2, var3, set3, var4, set4, var5, set5, var6, set6, var7, set7, var8, set8, var9, set9, var10, set10, var11, set11, var12, set12, var13, set13, var14, set14, var15, set15, var16, set16, var17, set17, var18, set18, var19, set19, wp_bnd, wpr, wpe, wp_chk, bndr, bnde, List.append_nil, List.nil_append, List.cons_append, cond_true, cond_false, decide_eq_true_eq, slc_s1, slc_s2, slc_s3, slc_t1, slc_t2, slc_t3, slc_l1, slc_l2, slc_l3, chk_i, sliceE, add_ii, sub_ii, mul_ii, fdiv_ii, mod_ii, pow_ii, eq_ii, ne_ii, lt_ii, le_ii, gt_ii, ge_ii, add_ss, add_tt, mul_si, eq_ss, ne_ss, eq_bb, neg_i, abs_i, int_i, int_b, len_s, len_t, len_k, max_ii, min_ii, tr_b, tr_i, tr_s, tr_n, ie_i, is_i, isnt_i, ie_s, is_s, isnt_s, ie_b, is_b, isnt_b, ie_t, is_t, isnt_t, ie_l, is_l, isnt_l, ie_k, is_k, isnt_k, ie_n, is_n, isnt_n, ie_e, in_ss, nin_ss, sub_si, sub_ti, kst, end_rt, end_nx]
    refine ⟨fun _ => ?_, fun z => by cases z⟩
    simpa using hq
  | .int x, n, a, b, S, Q, E, _, ha, hb, hq => by
    unfold isP at ha hb
    subst ha hb
    rw [e_same]
    unfold c_same c_same_0 c_same_2 c_same_4 c_same_5
    refine wp_def (wp_seq (wp_ite ?_))
    simp only [eq_self, decide_true, decide_false, Bool.not_true, Bool.not_false, true_and, and_true, wp_isi, isK, List.any_cons, List.any_nil, Bool.or_false, Bool.false_or, Bool.or_true, Bool.true_or, setS, retS, exprS, cstE, op1E, op2E, opnE, consA, nilA, valT, andT, orT, notT, iteE, andE, orE, notE, callE, methE, m0, m1, one, skipS, brkS, cntS, raiseS, subS, parS, var0, set0, var1, set1, var2, set2, var3, set3, var4, set4, var5, set5, var6, set6, var7, set7, var8, set8, var9, set9, var10, set10, var11, set11, var12, set12, var13, set13, var14, set14, var15, set15, var16, set16, var17, set17, var18, set18, var19, set19, wp_bnd, wpr, wpe, wp_chk, bndr, bnde, List.append_nil, List.nil_append, List.cons_append, cond_true, cond_false, decide_eq_true_eq, slc_s1, slc_s2, slc_s3, slc_t1, slc_t2, slc_t3, slc_l1, slc_l2, slc_l3, chk_i, sliceE, add_ii, sub_ii, mul_ii, fdiv_ii, mod_ii, pow_ii, eq_ii, ne_ii, lt_ii, le_ii, gt_ii, ge_ii, add_ss, add_tt, mul_si, eq_ss, ne_ss, eq_bb, neg_i, abs_i, int_i, int_b, len_s, len_t, len_k, max_ii, min_ii, tr_b, tr_i, tr_s, tr_n, ie_i, is_i, isnt_i, ie_s, is_s, isnt_s, ie_b, is_b, isnt_b, ie_t, is_t, isnt_t, ie_l, is_l, isnt_l, ie_k, is_k, isnt_k, ie_n, is_n, isnt_n, ie_e, in_ss, nin_ss, sub_si, sub_ti, kst, end_rt, end_nx]
    refine ⟨(fun z => by cases z), fun _ => wp_seq (wp_ite ?_)⟩
    simp only [eq_self, decide_true, decide_false, Bool.not_true, Bool.not_false, true_and, and_true, wp_isi, isK, List.any_cons, List.any_nil, Bool.or_false, Bool.false_or, Bool.or_true, Bool.true_or, setS, retS, exprS, cstE, op1E, op2E, opnE, consA, nilA, valT, andT, orT, notT, iteE, andE, orE, notE, callE, methE, m0, m1, one, skipS, brkS, cntS, raiseS, subS, parS, var0, set0, var1, set1, var2, set2, var3, set3, var4, set4, var5, set5, var6, set6, var7, set7, var8, set8, var9, set9, var10, set10, var11, set11, var12, set12, var13, set13, var14, set14, var15, set15, var16, set16, var17, set17, var18, set18, var19, set19, wp_bnd, wpr, wpe, wp_chk, bndr, bnde, List.append_nil, List.nil_append, List.cons_append, cond_true, cond_false, decide_eq_true_eq, slc_s1, slc_s2, slc_s3, slc_t1, slc_t2, slc_t3, slc_l1, slc_l2, slc_l3, chk_i, sliceE, add_ii, sub_ii, mul_ii, fdiv_ii, mod_ii, pow_ii, eq_ii, ne_ii, lt_ii, le_ii, gt_ii, ge_ii, add_ss, add_tt, mul_si, eq_ss, ne_ss, eq_bb, neg_i, abs_i, int_i, int_b, len_s, len_t, len_k, max_ii, min_ii, tr_b, tr_i, tr_s, tr_n, ie_i, is_i, isnt_i, ie_s, is_s, isnt_s, ie_b, is_b, isnt_b, ie_t, is_t, isnt_t, ie_l, is_l, isnt_l, ie_k, is_k, isnt_k, ie_n, is_n, isnt_n, ie_e, in_ss, nin_ss, sub_si, sub_ti, kst, end_rt, end_nx]
    refine ⟨(fun z => by cases z), fun _ => wp_seq (wp_ite ?_)⟩
    simp only [eq_self, decide_true, decide_false, Bool.not_true, Bool.not_false, true_and, and_true, wp_isi, isK, List.any_cons, List.any_nil, Bool.or_false, Bool.false_or, Bool.or_true, Bool.true_or, setS, retS, exprS, cstE, op1E, op2E, opnE, consA, nilA, valT, andT, orT, notT, iteE, andE, orE, notE, callE, methE, m0, m1, one, skipS, brkS, cntS, raiseS, subS, parS, var0, set0, var1, set1, var2, set2, var3, set3, var4, set4, var5, set5, var6, set6, var7, set7, var8, set8, var9, set9, var10, set10, var11, set11, var12, set12, var13, set13, var14, set14, var15, set15, var16, set16, var17, set17, var18, set18, var19, set19, wp_bnd, wpr, wpe, wp_chk, bndr, bnde, List.append_nil, List.nil_append, List.cons_append, cond_true, cond_false, decide_eq_true_eq, slc_s1, slc_s2, slc_s3, slc_t1, slc_t2, slc_t3, slc_l1, slc_l2, slc_l3, chk_i, sliceE, add_ii, sub_ii, mul_ii, fdiv_ii, mod_ii, pow_ii, eq_ii, ne_ii, lt_ii, le_ii, gt_ii, ge_ii, add_ss, add_tt, mul_si, eq_ss, ne_ss, eq_bb, neg_i, abs_i, int_i, int_b, len_s, len_t, len_k, max_ii, min_ii, tr_b, tr_i, tr_s, tr_n, ie_i, is_i, isnt_i, ie_s, is_s, isnt_s, ie_b, is_b, isnt_b, ie_t, is_t, isnt_t, ie_l, is_l, isnt_l, ie_k, is_k, isnt_k, ie_n, is_n, isnt_n, ie_e, in_ss, nin_ss, sub_si, sub_ti, kst, end_rt, end_nx]
    refine ⟨fun _ => ?_, fun z => by cases z⟩
    simpa using hq
  | .str x, n, a, b, S, Q, E, _, ha, hb, hq => by
    unfold isP at ha hb
    subst ha hb
    rw [e_same]
    unfold c_same c_same_0 c_same_2 c_same_4 c_same_6 c_same_7
    refine wp_def (wp_seq (wp_ite ?_))
    simp only [eq_self, decide_true, decide_false, Bool.not_true, Bool.not_false, true_and, and_true, wp_isi, isK, List.any_cons, List.any_nil, Bool.or_false, Bool.false_or, Bool.or_true, Bool.true_or, setS, retS, exprS, cstE, op1E, op2E, opnE, consA, nilA, valT, andT, orT, notT, iteE, andE, orE, notE, callE, methE, m0, m1, one, skipS, brkS, cntS, raiseS, subS, parS, var0, set0, var1, set1, var2, set2, var3, set3, var4, set4, var5, set5, var6, set6, var7, set7, var8, set8, var9, set9, var10, set10, var11, set11, var12, set12, var13, set13, var14, set14, var15, set15, var16, set16, var17, set17, var18, set18, var19, set19, wp_bnd, wpr, wpe, wp_chk, bndr, bnde, List.append_nil, List.nil_append, List.cons_append, cond_true, cond_false, decide_eq_true_eq, slc_s1, slc_s2, slc_s3, slc_t1, slc_t2, slc_t3, slc_l1, slc_l2, slc_l3, chk_i, sliceE, add_ii, sub_ii, mul_ii, fdiv_ii, mod_ii, pow_ii, eq_ii, ne_ii, lt_ii, le_ii, gt_ii, ge_ii, add_ss, add_tt, mul_si, eq_ss, ne_ss, eq_bb, neg_i, abs_i, int_i, int_b, len_s, len_t, len_k, max_ii, min_ii, tr_b, tr_i, tr_s, tr_n, ie_i, is_i, isnt_i, ie_s, is_s, isnt_s, ie_b, is_b, isnt_b, ie_t, is_t, isnt_t, ie_l, is_l, isnt_l, ie_k, is_k, isnt_k, ie_n, is_n, isnt_n, ie_e, in_ss, nin_ss, sub_si, sub_ti, kst, end_rt, end_nx]
    refine ⟨(fun z => by cases z), fun _ => wp_seq (wp_ite ?_)⟩
    simp only [eq_self, decide_true, decide_false, Bool.not_true, Bool.not_false, true_and, and_true, wp_isi, isK, List.any_cons, List.any_nil, Bool.or_false, Bool.false_or, Bool.or_true, Bool.true_or, setS, retS, exprS, cstE, op1E, op2E, opnE, consA, nilA, valT, andT, orT, notT, iteE, andE, orE, notE, callE, methE, m0, m1, one, skipS, brkS, cntS, raiseS, subS, parS, var0, set0, var1, set1, var2, set2, var3, set3, var4, set4, var5, set5, var6, set6, var7, set7, var8, set8, var9, set9, var10, set10, var11, set11, var12, set12, var13, set13, var14, set14, var15, set15, var16, set16, var17, set17, var18, set18, var19, set19, wp_bnd, wpr, wpe, wp_chk, bndr, bnde, List.append_nil, List.nil_append, List.cons_append, cond_true, cond_false, decide_eq_true_eq, slc_s1, slc_s2, slc_s3, slc_t1, slc_t2, slc_t3, slc_l1, slc_l2, slc_l3, chk_i, sliceE, add_ii, sub_ii, mul_ii, fdiv_ii, mod_ii, pow_ii, eq_ii, ne_ii, lt_ii, le_ii, gt_ii, ge_ii, add_ss, add_tt, mul_si, eq_ss, ne_ss, eq_bb, neg_i, abs_i, int_i, int_b, len_s, len_t, len_k, max_ii, min_ii, tr_b, tr_i, tr_s, tr_n, ie_i, is_i, isnt_i, ie_s, is_s, isnt_s, ie_b, is_b, isnt_b, ie_t, is_t, isnt_t, ie_l, is_l, isnt_l, ie_k, is_k, isnt_k, ie_n, is_n, isnt_n, ie_e, in_ss, nin_ss, sub_si, sub_ti, kst, end_rt, end_nx]
    refine ⟨(fun z => by cases z), fun _ => wp_seq (wp_ite ?_)⟩
    simp only [eq_self, decide_true, decide_false, Bool.not_true, Bool.not_false, true_and, and_true, wp_isi, isK, List.any_cons, List.any_nil, Bool.or_false, Bool.false_or, Bool.or_true, Bool.true_or, setS, retS, exprS, cstE, op1E, op2E, opnE, consA, nilA, valT, andT, orT, notT, iteE, andE, orE, notE, callE, methE, m0, m1, one, skipS, brkS, cntS, raiseS, subS, parS, var0, set0, var1, set1, var2, set2, var3, set3, var4, set4, var5, set5, var6, set6, var7, set7, var8, set8, var9, set9, var10, set10, var11, set11, var12, set12, var13, set13, var14, set14, var15, set15, var16, set16, var17, set17, var18, set18, var19, set19, wp_bnd, wpr, wpe, wp_chk, bndr, bnde, List.append_nil, List.nil_append, List.cons_append, cond_true, cond_false, decide_eq_true_eq, slc_s1, slc_s2, slc_s3, slc_t1, slc_t2, slc_t3, slc_l1, slc_l2, slc_l3, chk_i, sliceE, add_ii, sub_ii, mul_ii, fdiv_ii, mod_ii, pow_ii, eq_ii, ne_ii, lt_ii, le_ii, gt_ii, ge_ii, add_ss, add_tt, mul_si, eq_ss, ne_ss, eq_bb, neg_i, abs_i, int_i, int_b, len_s, len_t, len_k, max_ii, min_ii, tr_b, tr_i, tr_s, tr_n, ie_i, is_i, isnt_i, ie_s, is_s, isnt_s, ie_b, is_b, isnt_b, ie_t, is_t, isnt_t, ie_l, is_l, isnt_l, ie_k, is_k, isnt_k, ie_n, is_n, isnt_n, ie_e, in_ss, nin_ss, sub_si, sub_ti, kst, end_rt, end_nx]
    refine ⟨(fun z => by cases z), fun _ => wp_seq (wp_ite ?_)⟩
    simp only [eq_self, decide_true, decide_false, Bool.not_true, Bool.not_false, true_and, and_true, wp_isi, isK, List.any_cons, List.any_nil, Bool.or_false, Bool.false_or, Bool.or_true, Bool.true_or, setS, retS, exprS, cstE, op1E, op2E, opnE, consA, nilA, valT, andT, orT, notT, iteE, andE, orE, notE, callE, methE, m0, m1, one, skipS, brkS, cntS, raiseS, subS, parS, var0, set0, var1, set1, var2, set2, var3, set3, var4, set4, var5, set5, var6, set6, var7, set7, var8, set8, var9, set9, var10, set10, var11, set11, var12, set12, var13, set13, var14, set14, var15, set15, var16, set16, var17, set17, var18, set18, var19, set19, wp_bnd, wpr, wpe, wp_chk, bndr, bnde, List.append_nil, List.nil_append, List.cons_append, cond_true, cond_false, decide_eq_true_eq, slc_s1, slc_s2, slc_s3, slc_t1, slc_t2, slc_t3, slc_l1, slc_l2, slc_l3, chk_i, sliceE, add_ii, sub_ii, mul_ii, fdiv_ii, mod_ii, pow_ii, eq_ii, ne_ii, lt_ii, le_ii, gt_ii, ge_ii, add_ss, add_tt, mul_si, eq_ss, ne_ss, eq_bb, neg_i, abs_i, int_i, int_b, len_s, len_t, len_k, max_ii, min_ii, tr_b, tr_i, tr_s, tr_n, ie_i, is_i, isnt_i, ie_s, is_s, isnt_s, ie_b, is_b, isnt_b, ie_t, is_t, isnt_t, ie_l, is_l, isnt_l, ie_k, is_k, isnt_k, ie_n, is_n, isnt_n, ie_e, in_ss, nin_ss, sub_si, sub_ti, kst, end_rt, end_nx]
    refine ⟨fun _ => ?_, fun z => by cases z⟩
    simpa using hq
  | .tup ps, 0, a, b, S, Q, E, hn, ha, hb, hq => absurd hn (by unfold PD.depth; omega)
  | .tup ps, n + 1, a, b, S, Q, E, hn, ha, hb, hq => by
    unfold isP at ha hb
    obtain ⟨xs, ea, hx, zx⟩ := ha
    obtain ⟨ys, eb, hy, zy⟩ := hb
    subst ea eb
    unfold PD.depth at hn
    rw [e_same]
    unfold c_same c_same_0 c_same_2 c_same_4 c_same_6 c_same_8 c_same_9
    refine wp_def (wp_seq (wp_ite ?_))
    simp only [eq_self, decide_true, decide_false, Bool.not_true, Bool.not_false, true_and, and_true, wp_isi, isK, List.any_cons, List.any_nil, Bool.or_false, Bool.false_or, Bool.or_true, Bool.true_or, setS, retS, exprS, cstE, op1E, op2E, opnE, consA, nilA, valT, andT, orT, notT, iteE, andE, orE, notE, callE, methE, m0, m1, one, skipS, brkS, cntS, raiseS, subS, parS, var0, set0, var1, set1, var2, set2, var3, set3, var4, set4, var5, set5, var6, set6, var7, set7, var8, set8, var9, set9, var10, set10, var11, set11, var12, set12, var13, set13, var14, set14, var15, set15, var16, set16, var17, set17, var18, set18, var19, set19, wp_bnd, wpr, wpe, wp_chk, bndr, bnde, List.append_nil, List.nil_append, List.cons_append, cond_true, cond_false, decide_eq_true_eq, slc_s1, slc_s2, slc_s3, slc_t1, slc_t2, slc_t3, slc_l1, slc_l2, slc_l3, chk_i, sliceE, add_ii, sub_ii, mul_ii, fdiv_ii, mod_ii, pow_ii, eq_ii, ne_ii, lt_ii, le_ii, gt_ii, ge_ii, add_ss, add_tt, mul_si, eq_ss, ne_ss, eq_bb, neg_i, abs_i, int_i, int_b, len_s, len_t, len_k, max_ii, min_ii, tr_b, tr_i, tr_s, tr_n, ie_i, is_i, isnt_i, ie_s, is_s, isnt_s, ie_b, is_b, isnt_b, ie_t, is_t, isnt_t, ie_l, is_l, isnt_l, ie_k, is_k, isnt_k, ie_n, is_n, isnt_n, ie_e, in_ss, nin_ss, sub_si, sub_ti, kst, end_rt, end_nx]
    refine ⟨(fun z => by cases z), fun _ => wp_seq (wp_ite ?_)⟩
    simp only [eq_self, decide_true, decide_false, Bool.not_true, Bool.not_false, true_and, and_true, wp_isi, isK, List.any_cons, List.any_nil, Bool.or_false, Bool.false_or, Bool.or_true, Bool.true_or, setS, retS, exprS, cstE, op1E, op2E, opnE, consA, nilA, valT, andT, orT, notT, iteE, andE, orE, notE, callE, methE, m0, m1, one, skipS, brkS, cntS, raiseS, subS, parS, var0, set0, var1, set1, var2, set2, var3, set3, var4, set4, var5, set5, var6, set6, var7, set7, var8, set8, var9, set9, var10, set10, var11, set11, var12, set12, var13, set13, var14, set14, var15, set15, var16, set16, var17, set17, var18, set18, var19, set19, wp_bnd, wpr, wpe, wp_chk, bndr, bnde, List.append_nil, List.nil_append, List.cons_append, cond_true, cond_false, decide_eq_true_eq, slc_s1, slc_s2, slc_s3, slc_t1, slc_t2, slc_t3, slc_l1, slc_l2, slc_l3, chk_i, sliceE, add_ii, sub_ii, mul_ii, fdiv_ii, mod_ii, pow_ii, eq_ii, ne_ii, lt_ii, le_ii, gt_ii, ge_ii, add_ss, add_tt, mul_si, eq_ss, ne_ss, eq_bb, neg_i, abs_i, int_i, int_b, len_s, len_t, len_k, max_ii, min_ii, tr_b, tr_i, tr_s, tr_n, ie_i, is_i, isnt_i, ie_s, is_s, isnt_s, ie_b, is_b, isnt_b, ie_t, is_t, isnt_t, ie_l, is_l, isnt_l, ie_k, is_k, isnt_k, ie_n, is_n, isnt_n, ie_e, in_ss, nin_ss, sub_si, sub_ti, kst, end_rt, end_nx]
    refine ⟨(fun z => by cases z), fun _ => wp_seq (wp_ite ?_)⟩
    simp only [eq_self, decide_true, decide_false, Bool.not_true, Bool.not_false, true_and, and_true, wp_isi, isK, List.any_cons, List.any_nil, Bool.or_false, Bool.false_or, Bool.or_true, Bool.true_or, setS, retS, exprS, cstE, op1E, op2E, opnE, consA, nilA, valT, andT, orT, notT, iteE, andE, orE, notE, callE, methE, m0, m1, one, skipS, brkS, cntS, raiseS, subS, parS, var0, set0, var1, set1, var2, set2, var3, set3, var4, set4, var5, set5, var6, set6, var7, set7, var8, set8, var9, set9, var10, set10, var11, set11, var12, set12, var13, set13, var14, set14, var15, set15, var16, set16, var17, set17, var18, set18, var19, set19, wp_bnd, wpr, wpe, wp_chk, bndr, bnde, List.append_nil, List.nil_append, List.cons_append, cond_true, cond_false, decide_eq_true_eq, slc_s1, slc_s2, slc_s3, slc_t1, slc_t2, slc_t3, slc_l1, slc_l2, slc_l3, chk_i, sliceE, add_ii, sub_ii, mul_ii, fdiv_ii, mod_ii, pow_ii, eq_ii, ne_ii, lt_ii, le_ii, gt_ii, ge_ii, add_ss, add_tt, mul_si, eq_ss, ne_ss, eq_bb, neg_i, abs_i, int_i, int_b, len_s, len_t, len_k, max_ii, min_ii, tr_b, tr_i, tr_s, tr_n, ie_i, is_i, isnt_i, ie_s, is_s, isnt_s, ie_b, is_b, isnt_b, ie_t, is_t, isnt_t, ie_l, is_l, isnt_l, ie_k, is_k, isnt_k, ie_n, is_n, isnt_n, ie_e, in_ss, nin_ss, sub_si, sub_ti, kst, end_rt, end_nx]
    refine ⟨(fun z => by cases z), fun _ => wp_seq (wp_ite ?_)⟩
    simp only [eq_self, decide_true, decide_false, Bool.not_true, Bool.not_false, true_and, and_true, wp_isi, isK, List.any_cons, List.any_nil, Bool.or_false, Bool.false_or, Bool.or_true, Bool.true_or, setS, retS, exprS, cstE, op1E, op2E, opnE, consA, nilA, valT, andT, orT, notT, iteE, andE, orE, notE, callE, methE, m0, m1, one, skipS, brkS, cntS, raiseS, subS, parS, var0, set0, var1, set1, var2, set2, var3, set3, var4, set4, var5, set5, var6, set6, var7, set7, var8, set8, var9, set9, var10, set10, var11, set11, var12, set12, var13, set13, var14, set14, var15, set15, var16, set16, var17, set17, var18, set18, var19, set19, wp_bnd, wpr, wpe, wp_chk, bndr, bnde, List.append_nil, List.nil_append, List.cons_append, cond_true, cond_false, decide_eq_true_eq, slc_s1, slc_s2, slc_s3, slc_t1, slc_t2, slc_t3, slc_l1, slc_l2, slc_l3, chk_i, sliceE, add_ii, sub_ii, mul_ii, fdiv_ii, mod_ii, pow_ii, eq_ii, ne_ii, lt_ii, le_ii, gt_ii, ge_ii, add_ss, add_tt, mul_si, eq_ss, ne_ss, eq_bb, neg_i, abs_i, int_i, int_b, len_s, len_t, len_k, max_ii, min_ii, tr_b, tr_i, tr_s, tr_n, ie_i, is_i, isnt_i, ie_s, is_s, isnt_s, ie_b, is_b, isnt_b, ie_t, is_t, isnt_t, ie_l, is_l, isnt_l, ie_k, is_k, isnt_k, ie_n, is_n, isnt_n, ie_e, in_ss, nin_ss, sub_si, sub_ti, kst, end_rt, end_nx]
    refine ⟨(fun z => by cases z), fun _ => wp_seq (wp_ite ?_)⟩
    simp only [eq_self, decide_true, decide_false, Bool.not_true, Bool.not_false, true_and, and_true, wp_isi, isK, List.any_cons, List.any_nil, Bool.or_false, Bool.false_or, Bool.or_true, Bool.true_or, setS, retS, exprS, cstE, op1E, op2E, opnE, consA, nilA, valT, andT, orT, notT, iteE, andE, orE, notE, callE, methE, m0, m1, one, skipS, brkS, cntS, raiseS, subS, parS, var0, set0, var1, set1, var2, set2, var3, set3, var4, set4, var5, set5, var6, set6, var7, set7, var8, set8, var9, set9, var10, set10, var11, set11, var12, set12, var13, set13, var14, set14, var15, set15, var16, set16, var17, set17, var18, set18, var19, set19, wp_bnd, wpr, wpe, wp_chk, bndr, bnde, List.append_nil, List.nil_append, List.cons_append, cond_true, cond_false, decide_eq_true_eq, slc_s1, slc_s2, slc_s3, slc_t1, slc_t2, slc_t3, slc_l1, slc_l2, slc_l3, chk_i, sliceE, add_ii, sub_ii, mul_ii, fdiv_ii, mod_ii, pow_ii, eq_ii, ne_ii, lt_ii, le_ii, gt_ii, ge_ii, add_ss, add_tt, mul_si, eq_ss, ne_ss, eq_bb, neg_i, abs_i, int_i, int_b, len_s, len_t, len_k, max_ii, min_ii, tr_b, tr_i, tr_s, tr_n, ie_i, is_i, isnt_i, ie_s, is_s, isnt_s, ie_b, is_b, isnt_b, ie_t, is_t, isnt_t, ie_l, is_l, isnt_l, ie_k, is_k, isnt_k, ie_n, is_n, isnt_n, ie_e, in_ss, nin_ss, sub_si, sub_ti, kst, end_rt, end_nx]
    refine ⟨fun _ => wp_ite ?_, fun z => by cases z⟩
    simp only [eq_self, decide_true, decide_false, Bool.not_true, Bool.not_false, true_and, and_true, wp_isi, isK, List.any_cons, List.any_nil, Bool.or_false, Bool.false_or, Bool.or_true, Bool.true_or, setS, retS, exprS, cstE, op1E, op2E, opnE, consA, nilA, valT, andT, orT, notT, iteE, andE, orE, notE, callE, methE, m0, m1, one, skipS, brkS, cntS, raiseS, subS, parS, var0, set0, var1, set1, var2, set2, var3, set3, var4, set4, var5, set5, var6, set6, var7, set7, var8, set8, var9, set9, var10, set10, var11, set11, var12, set12, var13, set13, var14, set14, var15, set15, var16, set16, var17, set17, var18, set18, var19, set19, wp_bnd, wpr, wpe, wp_chk, bndr, bnde, List.append_nil, List.nil_append, List.cons_append, cond_true, cond_false, decide_eq_true_eq, slc_s1, slc_s2, slc_s3, slc_t1, slc_t2, slc_t3, slc_l1, slc_l2, slc_l3, chk_i, sliceE, add_ii, sub_ii, mul_ii, fdiv_ii, mod_ii, pow_ii, eq_ii, ne_ii, lt_ii, le_ii, gt_ii, ge_ii, add_ss, add_tt, mul_si, eq_ss, ne_ss, eq_bb, neg_i, abs_i, int_i, int_b, len_s, len_t, len_k, max_ii, min_ii, tr_b, tr_i, tr_s, tr_n, ie_i, is_i, isnt_i, ie_s, is_s, isnt_s, ie_b, is_b, isnt_b, ie_t, is_t, isnt_t, ie_l, is_l, isnt_l, ie_k, is_k, isnt_k, ie_n, is_n, isnt_n, ie_e, in_ss, nin_ss, sub_si, sub_ti, kst, end_rt, end_nx]
    refine ⟨(fun z => by cases z), fun _ => ?_⟩
    refine same_list (xs := xs) (ys := ys) (fun _ h => h) (fun _ h => h) (fun k x Q e h => ?_) (fun k x Q e h => ?_) ((isPs_len hx).trans (isPs_len hy).symm) zy (fun k x y Q ex ey h => sp_sames ps (by omega) hx hy k ex ey h) hq
    · simp only [eq_self, decide_true, decide_false, Bool.not_true, Bool.not_false, true_and, and_true, wp_isi, isK, List.any_cons, List.any_nil, Bool.or_false, Bool.false_or, Bool.or_true, Bool.true_or, setS, retS, exprS, cstE, op1E, op2E, opnE, consA, nilA, valT, andT, orT, notT, iteE, andE, orE, notE, callE, methE, m0, m1, one, skipS, brkS, cntS, raiseS, subS, parS, var0, set0, var1, set1, var2, set2, var3, set3, var4, set4, var5, set5, var6, set6, var7, set7, var8, set8, var9, set9, var10, set10, var11, set11, var12, set12, var13, set13, var14, set14, var15, set15, var16, set16, var17, set17, var18, set18, var19, set19, wp_bnd, wpr, wpe, wp_chk, bndr, bnde, List.append_nil, List.nil_append, List.cons_append, cond_true, cond_false, decide_eq_true_eq, slc_s1, slc_s2, slc_s3, slc_t1, slc_t2, slc_t3, slc_l1, slc_l2, slc_l3, chk_i, sliceE, add_ii, sub_ii, mul_ii, fdiv_ii, mod_ii, pow_ii, eq_ii, ne_ii, lt_ii, le_ii, gt_ii, ge_ii, add_ss, add_tt, mul_si, eq_ss, ne_ss, eq_bb, neg_i, abs_i, int_i, int_b, len_s, len_t, len_k, max_ii, min_ii, tr_b, tr_i, tr_s, tr_n, ie_i, is_i, isnt_i, ie_s, is_s, isnt_s, ie_b, is_b, isnt_b, ie_t, is_t, isnt_t, ie_l, is_l, isnt_l, ie_k, is_k, isnt_k, ie_n, is_n, isnt_n, ie_e, in_ss, nin_ss, sub_si, sub_ti, kst, end_rt, end_nx, wp_atL e]; exact h
    · simp only [eq_self, decide_true, decide_false, Bool.not_true, Bool.not_false, true_and, and_true, wp_isi, isK, List.any_cons, List.any_nil, Bool.or_false, Bool.false_or, Bool.or_true, Bool.true_or, setS, retS, exprS, cstE, op1E, op2E, opnE, consA, nilA, valT, andT, orT, notT, iteE, andE, orE, notE, callE, methE, m0, m1, one, skipS, brkS, cntS, raiseS, subS, parS, var0, set0, var1, set1, var2, set2, var3, set3, var4, set4, var5, set5, var6, set6, var7, set7, var8, set8, var9, set9, var10, set10, var11, set11, var12, set12, var13, set13, var14, set14, var15, set15, var16, set16, var17, set17, var18, set18, var19, set19, wp_bnd, wpr, wpe, wp_chk, bndr, bnde, List.append_nil, List.nil_append, List.cons_append, cond_true, cond_false, decide_eq_true_eq, slc_s1, slc_s2, slc_s3, slc_t1, slc_t2, slc_t3, slc_l1, slc_l2, slc_l3, chk_i, sliceE, add_ii, sub_ii, mul_ii, fdiv_ii, mod_ii, pow_ii, eq_ii, ne_ii, lt_ii, le_ii, gt_ii, ge_ii, add_ss, add_tt, mul_si, eq_ss, ne_ss, eq_bb, neg_i, abs_i, int_i, int_b, len_s, len_t, len_k, max_ii, min_ii, tr_b, tr_i, tr_s, tr_n, ie_i, is_i, isnt_i, ie_s, is_s, isnt_s, ie_b, is_b, isnt_b, ie_t, is_t, isnt_t, ie_l, is_l, isnt_l, ie_k, is_k, isnt_k, ie_n, is_n, isnt_n, ie_e, in_ss, nin_ss, sub_si, sub_ti, kst, end_rt, end_nx, wp_atL e]; exact h
  | .lst ps, 0, a, b, S, Q, E, hn, ha, hb, hq => absurd hn (by unfold PD.depth; omega)
  | .lst ps, n + 1, a, b, S, Q, E, hn, ha, hb, hq => by
    unfold isP at ha hb
    obtain ⟨l, w, xs, ea, la, hx, zx⟩ := ha
    obtain ⟨l', w', ys, eb, lb, hy, zy⟩ := hb
    subst ea eb
    unfold PD.depth at hn
    rw [e_same]
    unfold c_same c_same_0 c_same_2 c_same_4 c_same_6 c_same_8 c_same_11
    refine wp_def (wp_seq (wp_ite ?_))
    simp only [eq_self, decide_true, decide_false, Bool.not_true, Bool.not_false, true_and, and_true, wp_isi, isK, List.any_cons, List.any_nil, Bool.or_false, Bool.false_or, Bool.or_true, Bool.true_or, setS, retS, exprS, cstE, op1E, op2E, opnE, consA, nilA, valT, andT, orT, notT, iteE, andE, orE, notE, callE, methE, m0, m1, one, skipS, brkS, cntS, raiseS, subS, parS, var0, set0, var1, set1, var2, set2, var3, set3, var4, set4, var5, set5, var6, set6, var7, set7, var8, set8, var9, set9, var10, set10, var11, set11, var12, set12, var13, set13, var14, set14, var15, set15, var16, set16, var17, set17, var18, set18, var19, set19, wp_bnd, wpr, wpe, wp_chk, bndr, bnde, List.append_nil, List.nil_append, List.cons_append, cond_true, cond_false, decide_eq_true_eq, slc_s1, slc_s2, slc_s3, slc_t1, slc_t2, slc_t3, slc_l1, slc_l2, slc_l3, chk_i, sliceE, add_ii, sub_ii, mul_ii, fdiv_ii, mod_ii, pow_ii, eq_ii, ne_ii, lt_ii, le_ii, gt_ii, ge_ii, add_ss, add_tt, mul_si, eq_ss, ne_ss, eq_bb, neg_i, abs_i, int_i, int_b, len_s, len_t, len_k, max_ii, min_ii, tr_b, tr_i, tr_s, tr_n, ie_i, is_i, isnt_i, ie_s, is_s, isnt_s, ie_b, is_b, isnt_b, ie_t, is_t, isnt_t, ie_l, is_l, isnt_l, ie_k, is_k, isnt_k, ie_n, is_n, isnt_n, ie_e, in_ss, nin_ss, sub_si, sub_ti, kst, end_rt, end_nx]
    refine ⟨(fun z => by cases z), fun _ => wp_seq (wp_ite ?_)⟩
    simp only [eq_self, decide_true, decide_false, Bool.not_true, Bool.not_false, true_and, and_true, wp_isi, isK, List.any_cons, List.any_nil, Bool.or_false, Bool.false_or, Bool.or_true, Bool.true_or, setS, retS, exprS, cstE, op1E, op2E, opnE, consA, nilA, valT, andT, orT, notT, iteE, andE, orE, notE, callE, methE, m0, m1, one, skipS, brkS, cntS, raiseS, subS, parS, var0, set0, var1, set1, var2, set2, var3, set3, var4, set4, var5, set5, var6, set6, var7, set7, var8, set8, var9, set9, var10, set10, var11, set11, var12, set12, var13, set13, var14, set14, var15, set15, var16, set16, var17, set17, var18, set18, var19, set19, wp_bnd, wpr, wpe, wp_chk, bndr, bnde, List.append_nil, List.nil_append, List.cons_append, cond_true, cond_false, decide_eq_true_eq, slc_s1, slc_s2, slc_s3, slc_t1, slc_t2, slc_t3, slc_l1, slc_l2, slc_l3, chk_i, sliceE, add_ii, sub_ii, mul_ii, fdiv_ii, mod_ii, pow_ii, eq_ii, ne_ii, lt_ii, le_ii, gt_ii, ge_ii, add_ss, add_tt, mul_si, eq_ss, ne_ss, eq_bb, neg_i, abs_i, int_i, int_b, len_s, len_t, len_k, max_ii, min_ii, tr_b, tr_i, tr_s, tr_n, ie_i, is_i, isnt_i, ie_s, is_s, isnt_s, ie_b, is_b, isnt_b, ie_t, is_t, isnt_t, ie_l, is_l, isnt_l, ie_k, is_k, isnt_k, ie_n, is_n, isnt_n, ie_e, in_ss, nin_ss, sub_si, sub_ti, kst, end_rt, end_nx]
    refine ⟨(fun z => by cases z), fun _ => wp_seq (wp_ite ?_)⟩
    simp only [eq_self, decide_true, decide_false, Bool.not_true, Bool.not_false, true_and, and_true, wp_isi, isK, List.any_cons, List.any_nil, Bool.or_false, Bool.false_or, Bool.or_true, Bool.true_or, setS, retS, exprS, cstE, op1E, op2E, opnE, consA, nilA, valT, andT, orT, notT, iteE, andE, orE, notE, callE, methE, m0, m1, one, skipS, brkS, cntS, raiseS, subS, parS, var0, set0, var1, set1, var2, set2, var3, set3, var4, set4, var5, set5, var6, set6, var7, set7, var8, set8, var9, set9, var10, set10, var11, set11, var12, set12, var13, set13, var14, set14, var15, set15, var16, set16, var17, set17, var18, set18, var19, set19, wp_bnd, wpr, wpe, wp_chk, bndr, bnde, List.append_nil, List.nil_append, List.cons_append, cond_true, cond_false, decide_eq_true_eq, slc_s1, slc_s2, slc_s3, slc_t1, slc_t2, slc_t3, slc_l1, slc_l2, slc_l3, chk_i, sliceE, add_ii, sub_ii, mul_ii, fdiv_ii, mod_ii, pow_ii, eq_ii, ne_ii, lt_ii, le_ii, gt_ii, ge_ii, add_ss, add_tt, mul_si, eq_ss, ne_ss, eq_bb, neg_i, abs_i, int_i, int_b, len_s, len_t, len_k, max_ii, min_ii, tr_b, tr_i, tr_s, tr_n, ie_i, is_i, isnt_i, ie_s, is_s, isnt_s, ie_b, is_b, isnt_b, ie_t, is_t, isnt_t, ie_l, is_l, isnt_l, ie_k, is_k, isnt_k, ie_n, is_n, isnt_n, ie_e, in_ss, nin_ss, sub_si, sub_ti, kst, end_rt, end_nx]
    refine ⟨(fun z => by cases z), fun _ => wp_seq (wp_ite ?_)⟩
    simp only [eq_self, decide_true, decide_false, Bool.not_true, Bool.not_false, true_and, and_true, wp_isi, isK, List.any_cons, List.any_nil, Bool.or_false, Bool.false_or, Bool.or_true, Bool.true_or, setS, retS, exprS, cstE, op1E, op2E, opnE, consA, nilA, valT, andT, orT, notT, iteE, andE, orE, notE, callE, methE, m0, m1, one, skipS, brkS, cntS, raiseS, subS, parS, var0, set0, var1, set1, var2, set2, var3, set3, var4, set4, var5, set5, var6, set6, var7, set7, var8, set8, var9, set9, var10, set10, var11, set11, var12, set12, var13, set13, var14, set14, var15, set15, var16, set16, var17, set17, var18, set18, var19, set19, wp_bnd, wpr, wpe, wp_chk, bndr, bnde, List.append_nil, List.nil_append, List.cons_append, cond_true, cond_false, decide_eq_true_eq, slc_s1, slc_s2, slc_s3, slc_t1, slc_t2, slc_t3, slc_l1, slc_l2, slc_l3, chk_i, sliceE, add_ii, sub_ii, mul_ii, fdiv_ii, mod_ii, pow_ii, eq_ii, ne_ii, lt_ii, le_ii, gt_ii, ge_ii, add_ss, add_tt, mul_si, eq_ss, ne_ss, eq_bb, neg_i, abs_i, int_i, int_b, len_s, len_t, len_k, max_ii, min_ii, tr_b, tr_i, tr_s, tr_n, ie_i, is_i, isnt_i, ie_s, is_s, isnt_s, ie_b, is_b, isnt_b, ie_t, is_t, isnt_t, ie_l, is_l, isnt_l, ie_k, is_k, isnt_k, ie_n, is_n, isnt_n, ie_e, in_ss, nin_ss, sub_si, sub_ti, kst, end_rt, end_nx]
    refine ⟨(fun z => by cases z), fun _ => wp_seq (wp_ite ?_)⟩
    simp only [eq_self, decide_true, decide_false, Bool.not_true, Bool.not_false, true_and, and_true, wp_isi, isK, List.any_cons, List.any_nil, Bool.or_false, Bool.false_or, Bool.or_true, Bool.true_or, setS, retS, exprS, cstE, op1E, op2E, opnE, consA, nilA, valT, andT, orT, notT, iteE, andE, orE, notE, callE, methE, m0, m1, one, skipS, brkS, cntS, raiseS, subS, parS, var0, set0, var1, set1, var2, set2, var3, set3, var4, set4, var5, set5, var6, set6, var7, set7, var8, set8, var9, set9, var10, set10, var11, set11, var12, set12, var13, set13, var14, set14, var15, set15, var16, set16, var17, set17, var18, set18, var19, set19, wp_bnd, wpr, wpe, wp_chk, bndr, bnde, List.append_nil, List.nil_append, List.cons_append, cond_true, cond_false, decide_eq_true_eq, slc_s1, slc_s2, slc_s3, slc_t1, slc_t2, slc_t3, slc_l1, slc_l2, slc_l3, chk_i, sliceE, add_ii, sub_ii, mul_ii, fdiv_ii, mod_ii, pow_ii, eq_ii, ne_ii, lt_ii, le_ii, gt_ii, ge_ii, add_ss, add_tt, mul_si, eq_ss, ne_ss, eq_bb, neg_i, abs_i, int_i, int_b, len_s, len_t, len_k, max_ii, min_ii, tr_b, tr_i, tr_s, tr_n, ie_i, is_i, isnt_i, ie_s, is_s, isnt_s, ie_b, is_b, isnt_b, ie_t, is_t, isnt_t, ie_l, is_l, isnt_l, ie_k, is_k, isnt_k, ie_n, is_n, isnt_n, ie_e, in_ss, nin_ss, sub_si, sub_ti, kst, end_rt, end_nx]
    refine ⟨(fun z => by cases z), fun _ => wp_ite ?_⟩
    simp only [eq_self, decide_true, decide_false, Bool.not_true, Bool.not_false, true_and, and_true, wp_isi, isK, List.any_cons, List.any_nil, Bool.or_false, Bool.false_or, Bool.or_true, Bool.true_or, setS, retS, exprS, cstE, op1E, op2E, opnE, consA, nilA, valT, andT, orT, notT, iteE, andE, orE, notE, callE, methE, m0, m1, one, skipS, brkS, cntS, raiseS, subS, parS, var0, set0, var1, set1, var2, set2, var3, set3, var4, set4, var5, set5, var6, set6, var7, set7, var8, set8, var9, set9, var10, set10, var11, set11, var12, set12, var13, set13, var14, set14, var15, set15, var16, set16, var17, set17, var18, set18, var19, set19, wp_bnd, wpr, wpe, wp_chk, bndr, bnde, List.append_nil, List.nil_append, List.cons_append, cond_true, cond_false, decide_eq_true_eq, slc_s1, slc_s2, slc_s3, slc_t1, slc_t2, slc_t3, slc_l1, slc_l2, slc_l3, chk_i, sliceE, add_ii, sub_ii, mul_ii, fdiv_ii, mod_ii, pow_ii, eq_ii, ne_ii, lt_ii, le_ii, gt_ii, ge_ii, add_ss, add_tt, mul_si, eq_ss, ne_ss, eq_bb, neg_i, abs_i, int_i, int_b, len_s, len_t, len_k, max_ii, min_ii, tr_b, tr_i, tr_s, tr_n, ie_i, is_i, isnt_i, ie_s, is_s, isnt_s, ie_b, is_b, isnt_b, ie_t, is_t, isnt_t, ie_l, is_l, isnt_l, ie_k, is_k, isnt_k, ie_n, is_n, isnt_n, ie_e, in_ss, nin_ss, sub_si, sub_ti, kst, end_rt, end_nx, la]
    refine ⟨(fun z => by cases z), fun _ => ?_⟩
    refine same_list (xs := xs) (ys := ys) (fun _ h => by rw [wp_lenl la]; exact h) (fun _ h => by rw [wp_lenl lb]; exact h) (fun k x Q e h => ?_) (fun k x Q e h => ?_) ((isPs_len hx).trans (isPs_len hy).symm) zy (fun k x y Q ex ey h => sp_sames ps (by omega) hx hy k ex ey h) hq
    · rw [wp_subl la, wp_atL e]; exact h
    · rw [wp_subl lb, wp_atL e]; exact h
theorem sp_sames : ∀ (ps : List PD) {n : Nat} {xs ys : List D} {S : Store} {Q : D → Store → Prop} {E : Nat → List D → Store → Prop}, PD.depths ps ≤ n → isPs S ps xs → isPs S ps ys → ∀ (k : Nat) {x y : D}, xs[k]? = some x → ys[k]? = some y → Q (.bl true) S → Wp (callF LT (n + 1) i_same [x, y]) S Q E
  | [], n, xs, ys, S, Q, E, _, hx, hy, k, x, y, ex, ey, hq => by
    unfold isPs at hx
    subst hx
    cases ex
  | p :: ps, n, xs, ys, S, Q, E, hn, hx, hy, 0, x, y, ex, ey, hq => by
    unfold isPs at hx hy
    obtain ⟨d, r, e, h1, h2⟩ := hx
    obtain ⟨d', r', e', h1', h2'⟩ := hy
    subst e e'
    cases ex
    cases ey
    unfold PD.depths at hn
    exact sp_same p (by omega) h1 h1' hq
  | p :: ps, n, xs, ys, S, Q, E, hn, hx, hy, k + 1, x, y, ex, ey, hq => by
    unfold isPs at hx hy
    obtain ⟨d, r, e, h1, h2⟩ := hx
    obtain ⟨d', r', e', h1', h2'⟩ := hy
    subst e e'
    unfold PD.depths at hn
    exact sp_sames ps (by omega) h2 h2' k ex ey hq
end

/-! ### what a refusal tells -/
theorem sp_bare0 {n c : Nat} {fs : List D} {S : Store} {Q : D → Store → Prop} {E : Nat → List D → Store → Prop} (hc : c ∈ [3, 4, 5, 6, 7, 8, 12, 13, 16, 17, 18, 19]) (hq : Q (.loc S.length) (S ++ [.lst true []])) : Wp (callF LT (n + 1) i_bare [.exc c fs]) S Q E := by
  have e : ∀ b, b ∈ [1, 2, 9, 10, 11, 14, 15] → subC c b = false := by
    intro b hb
    revert hb b hc c
    decide
  have e1 := e 1 (by decide)
  have e2 := e 2 (by decide)
  have e3 := e 9 (by decide)
  have e4 := e 10 (by decide)
  have e5 := e 11 (by decide)
  have e6 := e 14 (by decide)
  have e7 := e 15 (by decide)
  rw [e_bare]
  unfold c_bare c_bare_0 c_bare_1 c_bare_3 c_bare_5 c_bare_7 c_bare_9 c_bare_11 c_bare_13 c_bare_15
  simp only [eq_self, decide_true, decide_false, Bool.not_true, Bool.not_false, true_and, and_true, wp_isi, isK, List.any_cons, List.any_nil, Bool.or_false, Bool.false_or, Bool.or_true, Bool.true_or, setS, retS, exprS, cstE, op1E, op2E, opnE, consA, nilA, valT, andT, orT, notT, iteE, andE, orE, notE, callE, methE, m0, m1, one, skipS, brkS, cntS, raiseS, subS, parS, var0, set0, var1, set1, var2, set2, var3, set3, var4, set4, var5, set5, var6, set6, var7, set7, var8, set8, var9, set9, var10, set10, var11, set11, var12, set12, var13, set13, var14, set14, var15, set15, var16, set16, var17, set17, var18, set18, var19, set19, wp_bnd, wpr, wpe, wp_chk, bndr, bnde, List.append_nil, List.nil_append, List.cons_append, cond_true, cond_false, decide_eq_true_eq, slc_s1, slc_s2, slc_s3, slc_t1, slc_t2, slc_t3, slc_l1, slc_l2, slc_l3, chk_i, sliceE, add_ii, sub_ii, mul_ii, fdiv_ii, mod_ii, pow_ii, eq_ii, ne_ii, lt_ii, le_ii, gt_ii, ge_ii, add_ss, add_tt, mul_si, eq_ss, ne_ss, eq_bb, neg_i, abs_i, int_i, int_b, len_s, len_t, len_k, max_ii, min_ii, tr_b, tr_i, tr_s, tr_n, ie_i, is_i, isnt_i, ie_s, is_s, isnt_s, ie_b, is_b, isnt_b, ie_t, is_t, isnt_t, ie_l, is_l, isnt_l, ie_k, is_k, isnt_k, ie_n, is_n, isnt_n, ie_e, in_ss, nin_ss, sub_si, sub_ti, kst, end_rt, end_nx, wp_newL, seqS, iteS, e1, e2, e3, e4, e5, e6, e7]
  exact ⟨rfl, by decide, hq⟩

theorem sp_ref_7 {n : Nat} {d0 : D} {S : Store} {Q : D → Store → Prop} {E : Nat → List D → Store → Prop} (hd : noExc [d0] = true) (hq : ∀ S', Pre S S' → Q (.tup [.str [66, 97, 100, 82, 111, 119], d0]) S') : Wp (callF LT (n + 2) i_refusal [.exc 7 [d0]]) S Q E := by
  rw [e_refusal]
  unfold c_refusal
  refine wp_def (wp_seq ?_)
  unfold c_refusal_0
  simp only [eq_self, decide_true, decide_false, Bool.not_true, Bool.not_false, true_and, and_true, wp_isi, isK, List.any_cons, List.any_nil, Bool.or_false, Bool.false_or, Bool.or_true, Bool.true_or, setS, retS, exprS, cstE, op1E, op2E, opnE, consA, nilA, valT, andT, orT, notT, iteE, andE, orE, notE, callE, methE, m0, m1, one, skipS, brkS, cntS, raiseS, subS, parS, var0, set0, var1, set1, var2, set2, var3, set3, var4, set4, var5, set5, var6, set6, var7, set7, var8, set8, var9, set9, var10, set10, var11, set11, var12, set12, var13, set13, var14, set14, var15, set15, var16, set16, var17, set17, var18, set18, var19, set19, wp_bnd, wpr, wpe, wp_chk, bndr, bnde, List.append_nil, List.nil_append, List.cons_append, cond_true, cond_false, decide_eq_true_eq, slc_s1, slc_s2, slc_s3, slc_t1, slc_t2, slc_t3, slc_l1, slc_l2, slc_l3, chk_i, sliceE, add_ii, sub_ii, mul_ii, fdiv_ii, mod_ii, pow_ii, eq_ii, ne_ii, lt_ii, le_ii, gt_ii, ge_ii, add_ss, add_tt, mul_si, eq_ss, ne_ss, eq_bb, neg_i, abs_i, int_i, int_b, len_s, len_t, len_k, max_ii, min_ii, tr_b, tr_i, tr_s, tr_n, ie_i, is_i, isnt_i, ie_s, is_s, isnt_s, ie_b, is_b, isnt_b, ie_t, is_t, isnt_t, ie_l, is_l, isnt_l, ie_k, is_k, isnt_k, ie_n, is_n, isnt_n, ie_e, in_ss, nin_ss, sub_si, sub_ti, kst, end_rt, end_nx]
  refine sp_bare0 (by decide) ?_
  simp only [eq_self, decide_true, decide_false, Bool.not_true, Bool.not_false, true_and, and_true, wp_isi, isK, List.any_cons, List.any_nil, Bool.or_false, Bool.false_or, Bool.or_true, Bool.true_or, setS, retS, exprS, cstE, op1E, op2E, opnE, consA, nilA, valT, andT, orT, notT, iteE, andE, orE, notE, callE, methE, m0, m1, one, skipS, brkS, cntS, raiseS, subS, parS, var0, set0, var1, set1, var2, set2, var3, set3, var4, set4, var5, set5, var6, set6, var7, set7, var8, set8, var9, set9, var10, set10, var11, set11, var12, set12, var13, set13, var14, set14, var15, set15, var16, set16, var17, set17, var18, set18, var19, set19, wp_bnd, wpr, wpe, wp_chk, bndr, bnde, List.append_nil, List.nil_append, List.cons_append, cond_true, cond_false, decide_eq_true_eq, slc_s1, slc_s2, slc_s3, slc_t1, slc_t2, slc_t3, slc_l1, slc_l2, slc_l3, chk_i, sliceE, add_ii, sub_ii, mul_ii, fdiv_ii, mod_ii, pow_ii, eq_ii, ne_ii, lt_ii, le_ii, gt_ii, ge_ii, add_ss, add_tt, mul_si, eq_ss, ne_ss, eq_bb, neg_i, abs_i, int_i, int_b, len_s, len_t, len_k, max_ii, min_ii, tr_b, tr_i, tr_s, tr_n, ie_i, is_i, isnt_i, ie_s, is_s, isnt_s, ie_b, is_b, isnt_b, ie_t, is_t, isnt_t, ie_l, is_l, isnt_l, ie_k, is_k, isnt_k, ie_n, is_n, isnt_n, ie_e, in_ss, nin_ss, sub_si, sub_ti, kst, end_rt, end_nx]
  unfold c_refusal_1
  refine wp_seq (wp_ite ?_)
  simp only [eq_self, decide_true, decide_false, Bool.not_true, Bool.not_false, true_and, and_true, wp_isi, isK, List.any_cons, List.any_nil, Bool.or_false, Bool.false_or, Bool.or_true, Bool.true_or, setS, retS, exprS, cstE, op1E, op2E, opnE, consA, nilA, valT, andT, orT, notT, iteE, andE, orE, notE, callE, methE, m0, m1, one, skipS, brkS, cntS, raiseS, subS, parS, var0, set0, var1, set1, var2, set2, var3, set3, var4, set4, var5, set5, var6, set6, var7, set7, var8, set8, var9, set9, var10, set10, var11, set11, var12, set12, var13, set13, var14, set14, var15, set15, var16, set16, var17, set17, var18, set18, var19, set19, wp_bnd, wpr, wpe, wp_chk, bndr, bnde, List.append_nil, List.nil_append, List.cons_append, cond_true, cond_false, decide_eq_true_eq, slc_s1, slc_s2, slc_s3, slc_t1, slc_t2, slc_t3, slc_l1, slc_l2, slc_l3, chk_i, sliceE, add_ii, sub_ii, mul_ii, fdiv_ii, mod_ii, pow_ii, eq_ii, ne_ii, lt_ii, le_ii, gt_ii, ge_ii, add_ss, add_tt, mul_si, eq_ss, ne_ss, eq_bb, neg_i, abs_i, int_i, int_b, len_s, len_t, len_k, max_ii, min_ii, tr_b, tr_i, tr_s, tr_n, ie_i, is_i, isnt_i, ie_s, is_s, isnt_s, ie_b, is_b, isnt_b, ie_t, is_t, isnt_t, ie_l, is_l, isnt_l, ie_k, is_k, isnt_k, ie_n, is_n, isnt_n, ie_e, in_ss, nin_ss, sub_si, sub_ti, kst, end_rt, end_nx, show subC 7 3 = false from rfl]
  refine ⟨(fun z => by cases z), fun _ => ?_⟩
  unfold c_refusal_3
  refine wp_seq (wp_ite ?_)
  simp only [eq_self, decide_true, decide_false, Bool.not_true, Bool.not_false, true_and, and_true, wp_isi, isK, List.any_cons, List.any_nil, Bool.or_false, Bool.false_or, Bool.or_true, Bool.true_or, setS, retS, exprS, cstE, op1E, op2E, opnE, consA, nilA, valT, andT, orT, notT, iteE, andE, orE, notE, callE, methE, m0, m1, one, skipS, brkS, cntS, raiseS, subS, parS, var0, set0, var1, set1, var2, set2, var3, set3, var4, set4, var5, set5, var6, set6, var7, set7, var8, set8, var9, set9, var10, set10, var11, set11, var12, set12, var13, set13, var14, set14, var15, set15, var16, set16, var17, set17, var18, set18, var19, set19, wp_bnd, wpr, wpe, wp_chk, bndr, bnde, List.append_nil, List.nil_append, List.cons_append, cond_true, cond_false, decide_eq_true_eq, slc_s1, slc_s2, slc_s3, slc_t1, slc_t2, slc_t3, slc_l1, slc_l2, slc_l3, chk_i, sliceE, add_ii, sub_ii, mul_ii, fdiv_ii, mod_ii, pow_ii, eq_ii, ne_ii, lt_ii, le_ii, gt_ii, ge_ii, add_ss, add_tt, mul_si, eq_ss, ne_ss, eq_bb, neg_i, abs_i, int_i, int_b, len_s, len_t, len_k, max_ii, min_ii, tr_b, tr_i, tr_s, tr_n, ie_i, is_i, isnt_i, ie_s, is_s, isnt_s, ie_b, is_b, isnt_b, ie_t, is_t, isnt_t, ie_l, is_l, isnt_l, ie_k, is_k, isnt_k, ie_n, is_n, isnt_n, ie_e, in_ss, nin_ss, sub_si, sub_ti, kst, end_rt, end_nx, show subC 7 4 = false from rfl]
  refine ⟨(fun z => by cases z), fun _ => ?_⟩
  unfold c_refusal_5
  refine wp_seq (wp_ite ?_)
  simp only [eq_self, decide_true, decide_false, Bool.not_true, Bool.not_false, true_and, and_true, wp_isi, isK, List.any_cons, List.any_nil, Bool.or_false, Bool.false_or, Bool.or_true, Bool.true_or, setS, retS, exprS, cstE, op1E, op2E, opnE, consA, nilA, valT, andT, orT, notT, iteE, andE, orE, notE, callE, methE, m0, m1, one, skipS, brkS, cntS, raiseS, subS, parS, var0, set0, var1, set1, var2, set2, var3, set3, var4, set4, var5, set5, var6, set6, var7, set7, var8, set8, var9, set9, var10, set10, var11, set11, var12, set12, var13, set13, var14, set14, var15, set15, var16, set16, var17, set17, var18, set18, var19, set19, wp_bnd, wpr, wpe, wp_chk, bndr, bnde, List.append_nil, List.nil_append, List.cons_append, cond_true, cond_false, decide_eq_true_eq, slc_s1, slc_s2, slc_s3, slc_t1, slc_t2, slc_t3, slc_l1, slc_l2, slc_l3, chk_i, sliceE, add_ii, sub_ii, mul_ii, fdiv_ii, mod_ii, pow_ii, eq_ii, ne_ii, lt_ii, le_ii, gt_ii, ge_ii, add_ss, add_tt, mul_si, eq_ss, ne_ss, eq_bb, neg_i, abs_i, int_i, int_b, len_s, len_t, len_k, max_ii, min_ii, tr_b, tr_i, tr_s, tr_n, ie_i, is_i, isnt_i, ie_s, is_s, isnt_s, ie_b, is_b, isnt_b, ie_t, is_t, isnt_t, ie_l, is_l, isnt_l, ie_k, is_k, isnt_k, ie_n, is_n, isnt_n, ie_e, in_ss, nin_ss, sub_si, sub_ti, kst, end_rt, end_nx, show subC 7 5 = false from rfl]
  refine ⟨(fun z => by cases z), fun _ => ?_⟩
  unfold c_refusal_7
  refine wp_seq (wp_ite ?_)
  simp only [eq_self, decide_true, decide_false, Bool.not_true, Bool.not_false, true_and, and_true, wp_isi, isK, List.any_cons, List.any_nil, Bool.or_false, Bool.false_or, Bool.or_true, Bool.true_or, setS, retS, exprS, cstE, op1E, op2E, opnE, consA, nilA, valT, andT, orT, notT, iteE, andE, orE, notE, callE, methE, m0, m1, one, skipS, brkS, cntS, raiseS, subS, parS, var0, set0, var1, set1, var2, set2, var3, set3, var4, set4, var5, set5, var6, set6, var7, set7, var8, set8, var9, set9, var10, set10, var11, set11, var12, set12, var13, set13, var14, set14, var15, set15, var16, set16, var17, set17, var18, set18, var19, set19, wp_bnd, wpr, wpe, wp_chk, bndr, bnde, List.append_nil, List.nil_append, List.cons_append, cond_true, cond_false, decide_eq_true_eq, slc_s1, slc_s2, slc_s3, slc_t1, slc_t2, slc_t3, slc_l1, slc_l2, slc_l3, chk_i, sliceE, add_ii, sub_ii, mul_ii, fdiv_ii, mod_ii, pow_ii, eq_ii, ne_ii, lt_ii, le_ii, gt_ii, ge_ii, add_ss, add_tt, mul_si, eq_ss, ne_ss, eq_bb, neg_i, abs_i, int_i, int_b, len_s, len_t, len_k, max_ii, min_ii, tr_b, tr_i, tr_s, tr_n, ie_i, is_i, isnt_i, ie_s, is_s, isnt_s, ie_b, is_b, isnt_b, ie_t, is_t, isnt_t, ie_l, is_l, isnt_l, ie_k, is_k, isnt_k, ie_n, is_n, isnt_n, ie_e, in_ss, nin_ss, sub_si, sub_ti, kst, end_rt, end_nx, show subC 7 6 = false from rfl]
  refine ⟨(fun z => by cases z), fun _ => ?_⟩
  unfold c_refusal_9
  refine wp_seq (wp_ite ?_)
  simp only [eq_self, decide_true, decide_false, Bool.not_true, Bool.not_false, true_and, and_true, wp_isi, isK, List.any_cons, List.any_nil, Bool.or_false, Bool.false_or, Bool.or_true, Bool.true_or, setS, retS, exprS, cstE, op1E, op2E, opnE, consA, nilA, valT, andT, orT, notT, iteE, andE, orE, notE, callE, methE, m0, m1, one, skipS, brkS, cntS, raiseS, subS, parS, var0, set0, var1, set1, var2, set2, var3, set3, var4, set4, var5, set5, var6, set6, var7, set7, var8, set8, var9, set9, var10, set10, var11, set11, var12, set12, var13, set13, var14, set14, var15, set15, var16, set16, var17, set17, var18, set18, var19, set19, wp_bnd, wpr, wpe, wp_chk, bndr, bnde, List.append_nil, List.nil_append, List.cons_append, cond_true, cond_false, decide_eq_true_eq, slc_s1, slc_s2, slc_s3, slc_t1, slc_t2, slc_t3, slc_l1, slc_l2, slc_l3, chk_i, sliceE, add_ii, sub_ii, mul_ii, fdiv_ii, mod_ii, pow_ii, eq_ii, ne_ii, lt_ii, le_ii, gt_ii, ge_ii, add_ss, add_tt, mul_si, eq_ss, ne_ss, eq_bb, neg_i, abs_i, int_i, int_b, len_s, len_t, len_k, max_ii, min_ii, tr_b, tr_i, tr_s, tr_n, ie_i, is_i, isnt_i, ie_s, is_s, isnt_s, ie_b, is_b, isnt_b, ie_t, is_t, isnt_t, ie_l, is_l, isnt_l, ie_k, is_k, isnt_k, ie_n, is_n, isnt_n, ie_e, in_ss, nin_ss, sub_si, sub_ti, kst, end_rt, end_nx, show subC 7 7 = true from rfl]
  refine ⟨fun _ => ?_, fun z => by cases z⟩
  unfold c_refusal_10
  simp only [eq_self, decide_true, decide_false, Bool.not_true, Bool.not_false, true_and, and_true, wp_isi, isK, List.any_cons, List.any_nil, Bool.or_false, Bool.false_or, Bool.or_true, Bool.true_or, setS, retS, exprS, cstE, op1E, op2E, opnE, consA, nilA, valT, andT, orT, notT, iteE, andE, orE, notE, callE, methE, m0, m1, one, skipS, brkS, cntS, raiseS, subS, parS, var0, set0, var1, set1, var2, set2, var3, set3, var4, set4, var5, set5, var6, set6, var7, set7, var8, set8, var9, set9, var10, set10, var11, set11, var12, set12, var13, set13, var14, set14, var15, set15, var16, set16, var17, set17, var18, set18, var19, set19, wp_bnd, wpr, wpe, wp_chk, bndr, bnde, List.append_nil, List.nil_append, List.cons_append, cond_true, cond_false, decide_eq_true_eq, slc_s1, slc_s2, slc_s3, slc_t1, slc_t2, slc_t3, slc_l1, slc_l2, slc_l3, chk_i, sliceE, add_ii, sub_ii, mul_ii, fdiv_ii, mod_ii, pow_ii, eq_ii, ne_ii, lt_ii, le_ii, gt_ii, ge_ii, add_ss, add_tt, mul_si, eq_ss, ne_ss, eq_bb, neg_i, abs_i, int_i, int_b, len_s, len_t, len_k, max_ii, min_ii, tr_b, tr_i, tr_s, tr_n, ie_i, is_i, isnt_i, ie_s, is_s, isnt_s, ie_b, is_b, isnt_b, ie_t, is_t, isnt_t, ie_l, is_l, isnt_l, ie_k, is_k, isnt_k, ie_n, is_n, isnt_n, ie_e, in_ss, nin_ss, sub_si, sub_ti, kst, end_rt, end_nx, wp_lstK (at_new (S := S)), wp_mkTup]
  have e : xfldD f_found (.exc 7 [d0]) = ret d0 := rfl
  simp only [eq_self, decide_true, decide_false, Bool.not_true, Bool.not_false, true_and, and_true, wp_isi, isK, List.any_cons, List.any_nil, Bool.or_false, Bool.false_or, Bool.or_true, Bool.true_or, setS, retS, exprS, cstE, op1E, op2E, opnE, consA, nilA, valT, andT, orT, notT, iteE, andE, orE, notE, callE, methE, m0, m1, one, skipS, brkS, cntS, raiseS, subS, parS, var0, set0, var1, set1, var2, set2, var3, set3, var4, set4, var5, set5, var6, set6, var7, set7, var8, set8, var9, set9, var10, set10, var11, set11, var12, set12, var13, set13, var14, set14, var15, set15, var16, set16, var17, set17, var18, set18, var19, set19, wp_bnd, wpr, wpe, wp_chk, bndr, bnde, List.append_nil, List.nil_append, List.cons_append, cond_true, cond_false, decide_eq_true_eq, slc_s1, slc_s2, slc_s3, slc_t1, slc_t2, slc_t3, slc_l1, slc_l2, slc_l3, chk_i, sliceE, add_ii, sub_ii, mul_ii, fdiv_ii, mod_ii, pow_ii, eq_ii, ne_ii, lt_ii, le_ii, gt_ii, ge_ii, add_ss, add_tt, mul_si, eq_ss, ne_ss, eq_bb, neg_i, abs_i, int_i, int_b, len_s, len_t, len_k, max_ii, min_ii, tr_b, tr_i, tr_s, tr_n, ie_i, is_i, isnt_i, ie_s, is_s, isnt_s, ie_b, is_b, isnt_b, ie_t, is_t, isnt_t, ie_l, is_l, isnt_l, ie_k, is_k, isnt_k, ie_n, is_n, isnt_n, ie_e, in_ss, nin_ss, sub_si, sub_ti, kst, end_rt, end_nx, e, wp_mkTup]
  refine ⟨hd, by simp [SZ], ?_⟩
  rw [wp_app (at_new (S := S))]
  refine ⟨rfl, by simp [SZ], ?_⟩
  have h1 := at_set (p := Ob.lst true ([] ++ [D.tup [D.str [66, 97, 100, 82, 111, 119], d0]])) (at_new (S := S) (o := Ob.lst true []))
  have h2 : Pre S ((S ++ [Ob.lst true []]).set S.length (Ob.lst true ([] ++ [D.tup [D.str [66, 97, 100, 82, 111, 119], d0]]))) := Pre.app.set (Nat.le_refl _)
  generalize (S ++ [Ob.lst true []]).set S.length (Ob.lst true ([] ++ [D.tup [D.str [66, 97, 100, 82, 111, 119], d0]])) = S1 at h1 h2
  unfold c_refusal_11
  refine wp_seq (wp_ite ?_)
  simp only [eq_self, decide_true, decide_false, Bool.not_true, Bool.not_false, true_and, and_true, wp_isi, isK, List.any_cons, List.any_nil, Bool.or_false, Bool.false_or, Bool.or_true, Bool.true_or, setS, retS, exprS, cstE, op1E, op2E, opnE, consA, nilA, valT, andT, orT, notT, iteE, andE, orE, notE, callE, methE, m0, m1, one, skipS, brkS, cntS, raiseS, subS, parS, var0, set0, var1, set1, var2, set2, var3, set3, var4, set4, var5, set5, var6, set6, var7, set7, var8, set8, var9, set9, var10, set10, var11, set11, var12, set12, var13, set13, var14, set14, var15, set15, var16, set16, var17, set17, var18, set18, var19, set19, wp_bnd, wpr, wpe, wp_chk, bndr, bnde, List.append_nil, List.nil_append, List.cons_append, cond_true, cond_false, decide_eq_true_eq, slc_s1, slc_s2, slc_s3, slc_t1, slc_t2, slc_t3, slc_l1, slc_l2, slc_l3, chk_i, sliceE, add_ii, sub_ii, mul_ii, fdiv_ii, mod_ii, pow_ii, eq_ii, ne_ii, lt_ii, le_ii, gt_ii, ge_ii, add_ss, add_tt, mul_si, eq_ss, ne_ss, eq_bb, neg_i, abs_i, int_i, int_b, len_s, len_t, len_k, max_ii, min_ii, tr_b, tr_i, tr_s, tr_n, ie_i, is_i, isnt_i, ie_s, is_s, isnt_s, ie_b, is_b, isnt_b, ie_t, is_t, isnt_t, ie_l, is_l, isnt_l, ie_k, is_k, isnt_k, ie_n, is_n, isnt_n, ie_e, in_ss, nin_ss, sub_si, sub_ti, kst, end_rt, end_nx, show subC 7 8 = false from rfl]
  refine ⟨(fun z => by cases z), fun _ => ?_⟩
  unfold c_refusal_13
  refine wp_seq (wp_ite ?_)
  simp only [eq_self, decide_true, decide_false, Bool.not_true, Bool.not_false, true_and, and_true, wp_isi, isK, List.any_cons, List.any_nil, Bool.or_false, Bool.false_or, Bool.or_true, Bool.true_or, setS, retS, exprS, cstE, op1E, op2E, opnE, consA, nilA, valT, andT, orT, notT, iteE, andE, orE, notE, callE, methE, m0, m1, one, skipS, brkS, cntS, raiseS, subS, parS, var0, set0, var1, set1, var2, set2, var3, set3, var4, set4, var5, set5, var6, set6, var7, set7, var8, set8, var9, set9, var10, set10, var11, set11, var12, set12, var13, set13, var14, set14, var15, set15, var16, set16, var17, set17, var18, set18, var19, set19, wp_bnd, wpr, wpe, wp_chk, bndr, bnde, List.append_nil, List.nil_append, List.cons_append, cond_true, cond_false, decide_eq_true_eq, slc_s1, slc_s2, slc_s3, slc_t1, slc_t2, slc_t3, slc_l1, slc_l2, slc_l3, chk_i, sliceE, add_ii, sub_ii, mul_ii, fdiv_ii, mod_ii, pow_ii, eq_ii, ne_ii, lt_ii, le_ii, gt_ii, ge_ii, add_ss, add_tt, mul_si, eq_ss, ne_ss, eq_bb, neg_i, abs_i, int_i, int_b, len_s, len_t, len_k, max_ii, min_ii, tr_b, tr_i, tr_s, tr_n, ie_i, is_i, isnt_i, ie_s, is_s, isnt_s, ie_b, is_b, isnt_b, ie_t, is_t, isnt_t, ie_l, is_l, isnt_l, ie_k, is_k, isnt_k, ie_n, is_n, isnt_n, ie_e, in_ss, nin_ss, sub_si, sub_ti, kst, end_rt, end_nx, show subC 7 12 = false from rfl]
  refine ⟨(fun z => by cases z), fun _ => ?_⟩
  unfold c_refusal_15
  refine wp_seq (wp_ite ?_)
  simp only [eq_self, decide_true, decide_false, Bool.not_true, Bool.not_false, true_and, and_true, wp_isi, isK, List.any_cons, List.any_nil, Bool.or_false, Bool.false_or, Bool.or_true, Bool.true_or, setS, retS, exprS, cstE, op1E, op2E, opnE, consA, nilA, valT, andT, orT, notT, iteE, andE, orE, notE, callE, methE, m0, m1, one, skipS, brkS, cntS, raiseS, subS, parS, var0, set0, var1, set1, var2, set2, var3, set3, var4, set4, var5, set5, var6, set6, var7, set7, var8, set8, var9, set9, var10, set10, var11, set11, var12, set12, var13, set13, var14, set14, var15, set15, var16, set16, var17, set17, var18, set18, var19, set19, wp_bnd, wpr, wpe, wp_chk, bndr, bnde, List.append_nil, List.nil_append, List.cons_append, cond_true, cond_false, decide_eq_true_eq, slc_s1, slc_s2, slc_s3, slc_t1, slc_t2, slc_t3, slc_l1, slc_l2, slc_l3, chk_i, sliceE, add_ii, sub_ii, mul_ii, fdiv_ii, mod_ii, pow_ii, eq_ii, ne_ii, lt_ii, le_ii, gt_ii, ge_ii, add_ss, add_tt, mul_si, eq_ss, ne_ss, eq_bb, neg_i, abs_i, int_i, int_b, len_s, len_t, len_k, max_ii, min_ii, tr_b, tr_i, tr_s, tr_n, ie_i, is_i, isnt_i, ie_s, is_s, isnt_s, ie_b, is_b, isnt_b, ie_t, is_t, isnt_t, ie_l, is_l, isnt_l, ie_k, is_k, isnt_k, ie_n, is_n, isnt_n, ie_e, in_ss, nin_ss, sub_si, sub_ti, kst, end_rt, end_nx, show subC 7 13 = false from rfl]
  refine ⟨(fun z => by cases z), fun _ => ?_⟩
  unfold c_refusal_17
  refine wp_seq (wp_ite ?_)
  simp only [eq_self, decide_true, decide_false, Bool.not_true, Bool.not_false, true_and, and_true, wp_isi, isK, List.any_cons, List.any_nil, Bool.or_false, Bool.false_or, Bool.or_true, Bool.true_or, setS, retS, exprS, cstE, op1E, op2E, opnE, consA, nilA, valT, andT, orT, notT, iteE, andE, orE, notE, callE, methE, m0, m1, one, skipS, brkS, cntS, raiseS, subS, parS, var0, set0, var1, set1, var2, set2, var3, set3, var4, set4, var5, set5, var6, set6, var7, set7, var8, set8, var9, set9, var10, set10, var11, set11, var12, set12, var13, set13, var14, set14, var15, set15, var16, set16, var17, set17, var18, set18, var19, set19, wp_bnd, wpr, wpe, wp_chk, bndr, bnde, List.append_nil, List.nil_append, List.cons_append, cond_true, cond_false, decide_eq_true_eq, slc_s1, slc_s2, slc_s3, slc_t1, slc_t2, slc_t3, slc_l1, slc_l2, slc_l3, chk_i, sliceE, add_ii, sub_ii, mul_ii, fdiv_ii, mod_ii, pow_ii, eq_ii, ne_ii, lt_ii, le_ii, gt_ii, ge_ii, add_ss, add_tt, mul_si, eq_ss, ne_ss, eq_bb, neg_i, abs_i, int_i, int_b, len_s, len_t, len_k, max_ii, min_ii, tr_b, tr_i, tr_s, tr_n, ie_i, is_i, isnt_i, ie_s, is_s, isnt_s, ie_b, is_b, isnt_b, ie_t, is_t, isnt_t, ie_l, is_l, isnt_l, ie_k, is_k, isnt_k, ie_n, is_n, isnt_n, ie_e, in_ss, nin_ss, sub_si, sub_ti, kst, end_rt, end_nx, show subC 7 16 = false from rfl]
  refine ⟨(fun z => by cases z), fun _ => ?_⟩
  unfold c_refusal_19
  refine wp_seq (wp_ite ?_)
  simp only [eq_self, decide_true, decide_false, Bool.not_true, Bool.not_false, true_and, and_true, wp_isi, isK, List.any_cons, List.any_nil, Bool.or_false, Bool.false_or, Bool.or_true, Bool.true_or, setS, retS, exprS, cstE, op1E, op2E, opnE, consA, nilA, valT, andT, orT, notT, iteE, andE, orE, notE, callE, methE, m0, m1, one, skipS, brkS, cntS, raiseS, subS, parS, var0, set0, var1, set1, var2, set2, var3, set3, var4, set4, var5, set5, var6, set6, var7, set7, var8, set8, var9, set9, var10, set10, var11, set11, var12, set12, var13, set13, var14, set14, var15, set15, var16, set16, var17, set17, var18, set18, var19, set19, wp_bnd, wpr, wpe, wp_chk, bndr, bnde, List.append_nil, List.nil_append, List.cons_append, cond_true, cond_false, decide_eq_true_eq, slc_s1, slc_s2, slc_s3, slc_t1, slc_t2, slc_t3, slc_l1, slc_l2, slc_l3, chk_i, sliceE, add_ii, sub_ii, mul_ii, fdiv_ii, mod_ii, pow_ii, eq_ii, ne_ii, lt_ii, le_ii, gt_ii, ge_ii, add_ss, add_tt, mul_si, eq_ss, ne_ss, eq_bb, neg_i, abs_i, int_i, int_b, len_s, len_t, len_k, max_ii, min_ii, tr_b, tr_i, tr_s, tr_n, ie_i, is_i, isnt_i, ie_s, is_s, isnt_s, ie_b, is_b, isnt_b, ie_t, is_t, isnt_t, ie_l, is_l, isnt_l, ie_k, is_k, isnt_k, ie_n, is_n, isnt_n, ie_e, in_ss, nin_ss, sub_si, sub_ti, kst, end_rt, end_nx, show subC 7 17 = false from rfl]
  refine ⟨(fun z => by cases z), fun _ => ?_⟩
  unfold c_refusal_21
  refine wp_seq (wp_ite ?_)
  simp only [eq_self, decide_true, decide_false, Bool.not_true, Bool.not_false, true_and, and_true, wp_isi, isK, List.any_cons, List.any_nil, Bool.or_false, Bool.false_or, Bool.or_true, Bool.true_or, setS, retS, exprS, cstE, op1E, op2E, opnE, consA, nilA, valT, andT, orT, notT, iteE, andE, orE, notE, callE, methE, m0, m1, one, skipS, brkS, cntS, raiseS, subS, parS, var0, set0, var1, set1, var2, set2, var3, set3, var4, set4, var5, set5, var6, set6, var7, set7, var8, set8, var9, set9, var10, set10, var11, set11, var12, set12, var13, set13, var14, set14, var15, set15, var16, set16, var17, set17, var18, set18, var19, set19, wp_bnd, wpr, wpe, wp_chk, bndr, bnde, List.append_nil, List.nil_append, List.cons_append, cond_true, cond_false, decide_eq_true_eq, slc_s1, slc_s2, slc_s3, slc_t1, slc_t2, slc_t3, slc_l1, slc_l2, slc_l3, chk_i, sliceE, add_ii, sub_ii, mul_ii, fdiv_ii, mod_ii, pow_ii, eq_ii, ne_ii, lt_ii, le_ii, gt_ii, ge_ii, add_ss, add_tt, mul_si, eq_ss, ne_ss, eq_bb, neg_i, abs_i, int_i, int_b, len_s, len_t, len_k, max_ii, min_ii, tr_b, tr_i, tr_s, tr_n, ie_i, is_i, isnt_i, ie_s, is_s, isnt_s, ie_b, is_b, isnt_b, ie_t, is_t, isnt_t, ie_l, is_l, isnt_l, ie_k, is_k, isnt_k, ie_n, is_n, isnt_n, ie_e, in_ss, nin_ss, sub_si, sub_ti, kst, end_rt, end_nx, show subC 7 18 = false from rfl]
  refine ⟨(fun z => by cases z), fun _ => ?_⟩
  unfold c_refusal_23
  refine wp_seq (wp_ite ?_)
  simp only [eq_self, decide_true, decide_false, Bool.not_true, Bool.not_false, true_and, and_true, wp_isi, isK, List.any_cons, List.any_nil, Bool.or_false, Bool.false_or, Bool.or_true, Bool.true_or, setS, retS, exprS, cstE, op1E, op2E, opnE, consA, nilA, valT, andT, orT, notT, iteE, andE, orE, notE, callE, methE, m0, m1, one, skipS, brkS, cntS, raiseS, subS, parS, var0, set0, var1, set1, var2, set2, var3, set3, var4, set4, var5, set5, var6, set6, var7, set7, var8, set8, var9, set9, var10, set10, var11, set11, var12, set12, var13, set13, var14, set14, var15, set15, var16, set16, var17, set17, var18, set18, var19, set19, wp_bnd, wpr, wpe, wp_chk, bndr, bnde, List.append_nil, List.nil_append, List.cons_append, cond_true, cond_false, decide_eq_true_eq, slc_s1, slc_s2, slc_s3, slc_t1, slc_t2, slc_t3, slc_l1, slc_l2, slc_l3, chk_i, sliceE, add_ii, sub_ii, mul_ii, fdiv_ii, mod_ii, pow_ii, eq_ii, ne_ii, lt_ii, le_ii, gt_ii, ge_ii, add_ss, add_tt, mul_si, eq_ss, ne_ss, eq_bb, neg_i, abs_i, int_i, int_b, len_s, len_t, len_k, max_ii, min_ii, tr_b, tr_i, tr_s, tr_n, ie_i, is_i, isnt_i, ie_s, is_s, isnt_s, ie_b, is_b, isnt_b, ie_t, is_t, isnt_t, ie_l, is_l, isnt_l, ie_k, is_k, isnt_k, ie_n, is_n, isnt_n, ie_e, in_ss, nin_ss, sub_si, sub_ti, kst, end_rt, end_nx, show subC 7 19 = false from rfl]
  refine ⟨(fun z => by cases z), fun _ => ?_⟩
  unfold c_refusal_25
  refine wp_seq (wp_ite ?_)
  simp only [eq_self, decide_true, decide_false, Bool.not_true, Bool.not_false, true_and, and_true, wp_isi, isK, List.any_cons, List.any_nil, Bool.or_false, Bool.false_or, Bool.or_true, Bool.true_or, setS, retS, exprS, cstE, op1E, op2E, opnE, consA, nilA, valT, andT, orT, notT, iteE, andE, orE, notE, callE, methE, m0, m1, one, skipS, brkS, cntS, raiseS, subS, parS, var0, set0, var1, set1, var2, set2, var3, set3, var4, set4, var5, set5, var6, set6, var7, set7, var8, set8, var9, set9, var10, set10, var11, set11, var12, set12, var13, set13, var14, set14, var15, set15, var16, set16, var17, set17, var18, set18, var19, set19, wp_bnd, wpr, wpe, wp_chk, bndr, bnde, List.append_nil, List.nil_append, List.cons_append, cond_true, cond_false, decide_eq_true_eq, slc_s1, slc_s2, slc_s3, slc_t1, slc_t2, slc_t3, slc_l1, slc_l2, slc_l3, chk_i, sliceE, add_ii, sub_ii, mul_ii, fdiv_ii, mod_ii, pow_ii, eq_ii, ne_ii, lt_ii, le_ii, gt_ii, ge_ii, add_ss, add_tt, mul_si, eq_ss, ne_ss, eq_bb, neg_i, abs_i, int_i, int_b, len_s, len_t, len_k, max_ii, min_ii, tr_b, tr_i, tr_s, tr_n, ie_i, is_i, isnt_i, ie_s, is_s, isnt_s, ie_b, is_b, isnt_b, ie_t, is_t, isnt_t, ie_l, is_l, isnt_l, ie_k, is_k, isnt_k, ie_n, is_n, isnt_n, ie_e, in_ss, nin_ss, sub_si, sub_ti, kst, end_rt, end_nx, wp_lenl h1]
  refine ⟨(fun z => by simp [isK, isExc] at z), fun _ => ?_⟩
  unfold c_refusal_27
  simp only [eq_self, decide_true, decide_false, Bool.not_true, Bool.not_false, true_and, and_true, wp_isi, isK, List.any_cons, List.any_nil, Bool.or_false, Bool.false_or, Bool.or_true, Bool.true_or, setS, retS, exprS, cstE, op1E, op2E, opnE, consA, nilA, valT, andT, orT, notT, iteE, andE, orE, notE, callE, methE, m0, m1, one, skipS, brkS, cntS, raiseS, subS, parS, var0, set0, var1, set1, var2, set2, var3, set3, var4, set4, var5, set5, var6, set6, var7, set7, var8, set8, var9, set9, var10, set10, var11, set11, var12, set12, var13, set13, var14, set14, var15, set15, var16, set16, var17, set17, var18, set18, var19, set19, wp_bnd, wpr, wpe, wp_chk, bndr, bnde, List.append_nil, List.nil_append, List.cons_append, cond_true, cond_false, decide_eq_true_eq, slc_s1, slc_s2, slc_s3, slc_t1, slc_t2, slc_t3, slc_l1, slc_l2, slc_l3, chk_i, sliceE, add_ii, sub_ii, mul_ii, fdiv_ii, mod_ii, pow_ii, eq_ii, ne_ii, lt_ii, le_ii, gt_ii, ge_ii, add_ss, add_tt, mul_si, eq_ss, ne_ss, eq_bb, neg_i, abs_i, int_i, int_b, len_s, len_t, len_k, max_ii, min_ii, tr_b, tr_i, tr_s, tr_n, ie_i, is_i, isnt_i, ie_s, is_s, isnt_s, ie_b, is_b, isnt_b, ie_t, is_t, isnt_t, ie_l, is_l, isnt_l, ie_k, is_k, isnt_k, ie_n, is_n, isnt_n, ie_e, in_ss, nin_ss, sub_si, sub_ti, kst, end_rt, end_nx, wp_subl h1]
  exact hq _ h2

/-! ### the program -/
theorem sp_check_count {n : Nat} {f lo hi : Int} {S : Store} {Q : D → Store → Prop} {E : Nat → List D → Store → Prop} (hq : lo ≤ f ∧ f ≤ hi → Q .non S) (he : ¬ (lo ≤ f ∧ f ≤ hi) → E 3 [.int f, .int lo, .int hi] S) : Wp (callF LT (n + 1) i_check_count [.int f, .int lo, .int hi]) S Q E := by
  rw [e_check_count]
  unfold c_check_count
  refine wp_def ?_
  unfold c_check_count_0
  refine wp_ite ?_
  simp only [eq_self, decide_true, decide_false, Bool.not_true, Bool.not_false, true_and, and_true, wp_isi, isK, List.any_cons, List.any_nil, Bool.or_false, Bool.false_or, Bool.or_true, Bool.true_or, setS, retS, exprS, cstE, op1E, op2E, opnE, consA, nilA, valT, andT, orT, notT, iteE, andE, orE, notE, callE, methE, m0, m1, one, skipS, brkS, cntS, raiseS, subS, parS, var0, set0, var1, set1, var2, set2, var3, set3, var4, set4, var5, set5, var6, set6, var7, set7, var8, set8, var9, set9, var10, set10, var11, set11, var12, set12, var13, set13, var14, set14, var15, set15, var16, set16, var17, set17, var18, set18, var19, set19, wp_bnd, wpr, wpe, wp_chk, bndr, bnde, List.append_nil, List.nil_append, List.cons_append, cond_true, cond_false, decide_eq_true_eq, slc_s1, slc_s2, slc_s3, slc_t1, slc_t2, slc_t3, slc_l1, slc_l2, slc_l3, chk_i, sliceE, add_ii, sub_ii, mul_ii, fdiv_ii, mod_ii, pow_ii, eq_ii, ne_ii, lt_ii, le_ii, gt_ii, ge_ii, add_ss, add_tt, mul_si, eq_ss, ne_ss, eq_bb, neg_i, abs_i, int_i, int_b, len_s, len_t, len_k, max_ii, min_ii, tr_b, tr_i, tr_s, tr_n, ie_i, is_i, isnt_i, ie_s, is_s, isnt_s, ie_b, is_b, isnt_b, ie_t, is_t, isnt_t, ie_l, is_l, isnt_l, ie_k, is_k, isnt_k, ie_n, is_n, isnt_n, ie_e, in_ss, nin_ss, sub_si, sub_ti, kst, end_rt, end_nx, wp_if]
  have raise : ∀ {Q' : Fl → Store → Prop}, ¬ (lo ≤ f ∧ f ≤ hi) → Wp (c_check_count_1 (callF LT n) [some (.int f), some (.int lo), some (.int hi)]) S Q' E := by
    intro Q' z
    unfold c_check_count_1
    simp only [eq_self, decide_true, decide_false, Bool.not_true, Bool.not_false, true_and, and_true, wp_isi, isK, List.any_cons, List.any_nil, Bool.or_false, Bool.false_or, Bool.or_true, Bool.true_or, setS, retS, exprS, cstE, op1E, op2E, opnE, consA, nilA, valT, andT, orT, notT, iteE, andE, orE, notE, callE, methE, m0, m1, one, skipS, brkS, cntS, raiseS, subS, parS, var0, set0, var1, set1, var2, set2, var3, set3, var4, set4, var5, set5, var6, set6, var7, set7, var8, set8, var9, set9, var10, set10, var11, set11, var12, set12, var13, set13, var14, set14, var15, set15, var16, set16, var17, set17, var18, set18, var19, set19, wp_bnd, wpr, wpe, wp_chk, bndr, bnde, List.append_nil, List.nil_append, List.cons_append, cond_true, cond_false, decide_eq_true_eq, slc_s1, slc_s2, slc_s3, slc_t1, slc_t2, slc_t3, slc_l1, slc_l2, slc_l3, chk_i, sliceE, add_ii, sub_ii, mul_ii, fdiv_ii, mod_ii, pow_ii, eq_ii, ne_ii, lt_ii, le_ii, gt_ii, ge_ii, add_ss, add_tt, mul_si, eq_ss, ne_ss, eq_bb, neg_i, abs_i, int_i, int_b, len_s, len_t, len_k, max_ii, min_ii, tr_b, tr_i, tr_s, tr_n, ie_i, is_i, isnt_i, ie_s, is_s, isnt_s, ie_b, is_b, isnt_b, ie_t, is_t, isnt_t, ie_l, is_l, isnt_l, ie_k, is_k, isnt_k, ie_n, is_n, isnt_n, ie_e, in_ss, nin_ss, sub_si, sub_ti, kst, end_rt, end_nx]
    exact ⟨rfl, he z⟩
  by_cases q1 : f < lo
  · simp only [q1, eq_self, decide_true, decide_false, Bool.not_true, Bool.not_false, true_and, and_true, wp_isi, isK, List.any_cons, List.any_nil, Bool.or_false, Bool.false_or, Bool.or_true, Bool.true_or, setS, retS, exprS, cstE, op1E, op2E, opnE, consA, nilA, valT, andT, orT, notT, iteE, andE, orE, notE, callE, methE, m0, m1, one, skipS, brkS, cntS, raiseS, subS, parS, var0, set0, var1, set1, var2, set2, var3, set3, var4, set4, var5, set5, var6, set6, var7, set7, var8, set8, var9, set9, var10, set10, var11, set11, var12, set12, var13, set13, var14, set14, var15, set15, var16, set16, var17, set17, var18, set18, var19, set19, wp_bnd, wpr, wpe, wp_chk, bndr, bnde, List.append_nil, List.nil_append, List.cons_append, cond_true, cond_false, decide_eq_true_eq, slc_s1, slc_s2, slc_s3, slc_t1, slc_t2, slc_t3, slc_l1, slc_l2, slc_l3, chk_i, sliceE, add_ii, sub_ii, mul_ii, fdiv_ii, mod_ii, pow_ii, eq_ii, ne_ii, lt_ii, le_ii, gt_ii, ge_ii, add_ss, add_tt, mul_si, eq_ss, ne_ss, eq_bb, neg_i, abs_i, int_i, int_b, len_s, len_t, len_k, max_ii, min_ii, tr_b, tr_i, tr_s, tr_n, ie_i, is_i, isnt_i, ie_s, is_s, isnt_s, ie_b, is_b, isnt_b, ie_t, is_t, isnt_t, ie_l, is_l, isnt_l, ie_k, is_k, isnt_k, ie_n, is_n, isnt_n, ie_e, in_ss, nin_ss, sub_si, sub_ti, kst, end_rt, end_nx]
    exact ⟨fun _ => raise (by omega), fun z => by cases z⟩
  · simp only [q1, eq_self, decide_true, decide_false, Bool.not_true, Bool.not_false, true_and, and_true, wp_isi, isK, List.any_cons, List.any_nil, Bool.or_false, Bool.false_or, Bool.or_true, Bool.true_or, setS, retS, exprS, cstE, op1E, op2E, opnE, consA, nilA, valT, andT, orT, notT, iteE, andE, orE, notE, callE, methE, m0, m1, one, skipS, brkS, cntS, raiseS, subS, parS, var0, set0, var1, set1, var2, set2, var3, set3, var4, set4, var5, set5, var6, set6, var7, set7, var8, set8, var9, set9, var10, set10, var11, set11, var12, set12, var13, set13, var14, set14, var15, set15, var16, set16, var17, set17, var18, set18, var19, set19, wp_bnd, wpr, wpe, wp_chk, bndr, bnde, List.append_nil, List.nil_append, List.cons_append, cond_true, cond_false, decide_eq_true_eq, slc_s1, slc_s2, slc_s3, slc_t1, slc_t2, slc_t3, slc_l1, slc_l2, slc_l3, chk_i, sliceE, add_ii, sub_ii, mul_ii, fdiv_ii, mod_ii, pow_ii, eq_ii, ne_ii, lt_ii, le_ii, gt_ii, ge_ii, add_ss, add_tt, mul_si, eq_ss, ne_ss, eq_bb, neg_i, abs_i, int_i, int_b, len_s, len_t, len_k, max_ii, min_ii, tr_b, tr_i, tr_s, tr_n, ie_i, is_i, isnt_i, ie_s, is_s, isnt_s, ie_b, is_b, isnt_b, ie_t, is_t, isnt_t, ie_l, is_l, isnt_l, ie_k, is_k, isnt_k, ie_n, is_n, isnt_n, ie_e, in_ss, nin_ss, sub_si, sub_ti, kst, end_rt, end_nx]
    exact ⟨fun z => raise (by omega), fun z => hq (by have := of_decide_eq_false z; omega)⟩
theorem sp_has_only {n : Nat} {s cs : List Nat} {S : Store} {Q : D → Store → Prop} {E : Nat → List D → Store → Prop} (hq : Q (.bl (s.all fun x => cs.contains x)) S) : Wp (callF LT (n + 1) i_has_only [.str s, .str cs]) S Q E := by
  rw [e_has_only]
  unfold c_has_only
  refine wp_def (wp_seq ?_)
  unfold c_has_only_0
  refine wp_forI ?_
  simp only [eq_self, decide_true, decide_false, Bool.not_true, Bool.not_false, true_and, and_true, wp_isi, isK, List.any_cons, List.any_nil, Bool.or_false, Bool.false_or, Bool.or_true, Bool.true_or, setS, retS, exprS, cstE, op1E, op2E, opnE, consA, nilA, valT, andT, orT, notT, iteE, andE, orE, notE, callE, methE, m0, m1, one, skipS, brkS, cntS, raiseS, subS, parS, var0, set0, var1, set1, var2, set2, var3, set3, var4, set4, var5, set5, var6, set6, var7, set7, var8, set8, var9, set9, var10, set10, var11, set11, var12, set12, var13, set13, var14, set14, var15, set15, var16, set16, var17, set17, var18, set18, var19, set19, wp_bnd, wpr, wpe, wp_chk, bndr, bnde, List.append_nil, List.nil_append, List.cons_append, cond_true, cond_false, decide_eq_true_eq, slc_s1, slc_s2, slc_s3, slc_t1, slc_t2, slc_t3, slc_l1, slc_l2, slc_l3, chk_i, sliceE, add_ii, sub_ii, mul_ii, fdiv_ii, mod_ii, pow_ii, eq_ii, ne_ii, lt_ii, le_ii, gt_ii, ge_ii, add_ss, add_tt, mul_si, eq_ss, ne_ss, eq_bb, neg_i, abs_i, int_i, int_b, len_s, len_t, len_k, max_ii, min_ii, tr_b, tr_i, tr_s, tr_n, ie_i, is_i, isnt_i, ie_s, is_s, isnt_s, ie_b, is_b, isnt_b, ie_t, is_t, isnt_t, ie_l, is_l, isnt_l, ie_k, is_k, isnt_k, ie_n, is_n, isnt_n, ie_e, in_ss, nin_ss, sub_si, sub_ti, kst, end_rt, end_nx, seqI, itOf]
  refine wp_strGo (fun i δ S' => S' = S ∧ (∃ x, δ = [some (.str s), some (.str cs), x]) ∧ ∀ j c, j < i → s[j]? = some c → cs.contains c = true) ⟨rfl, ⟨_, rfl⟩, fun j c h => absurd h (Nat.not_lt_zero _)⟩ (fun i c δ S' hi ⟨e, ⟨x, eδ⟩, h⟩ => ?_) (fun δ S' ⟨e, ⟨x, eδ⟩, h⟩ => ?_)
  · subst e eδ
    unfold c_has_only_1
    refine wp_ite ?_
    simp only [eq_self, decide_true, decide_false, Bool.not_true, Bool.not_false, true_and, and_true, wp_isi, isK, List.any_cons, List.any_nil, Bool.or_false, Bool.false_or, Bool.or_true, Bool.true_or, setS, retS, exprS, cstE, op1E, op2E, opnE, consA, nilA, valT, andT, orT, notT, iteE, andE, orE, notE, callE, methE, m0, m1, one, skipS, brkS, cntS, raiseS, subS, parS, var0, set0, var1, set1, var2, set2, var3, set3, var4, set4, var5, set5, var6, set6, var7, set7, var8, set8, var9, set9, var10, set10, var11, set11, var12, set12, var13, set13, var14, set14, var15, set15, var16, set16, var17, set17, var18, set18, var19, set19, wp_bnd, wpr, wpe, wp_chk, bndr, bnde, List.append_nil, List.nil_append, List.cons_append, cond_true, cond_false, decide_eq_true_eq, slc_s1, slc_s2, slc_s3, slc_t1, slc_t2, slc_t3, slc_l1, slc_l2, slc_l3, chk_i, sliceE, add_ii, sub_ii, mul_ii, fdiv_ii, mod_ii, pow_ii, eq_ii, ne_ii, lt_ii, le_ii, gt_ii, ge_ii, add_ss, add_tt, mul_si, eq_ss, ne_ss, eq_bb, neg_i, abs_i, int_i, int_b, len_s, len_t, len_k, max_ii, min_ii, tr_b, tr_i, tr_s, tr_n, ie_i, is_i, isnt_i, ie_s, is_s, isnt_s, ie_b, is_b, isnt_b, ie_t, is_t, isnt_t, ie_l, is_l, isnt_l, ie_k, is_k, isnt_k, ie_n, is_n, isnt_n, ie_e, in_ss, nin_ss, sub_si, sub_ti, kst, end_rt, end_nx, List.set, infixB1]
    refine ⟨fun z => ?_, fun z => ⟨rfl, ⟨_, rfl⟩, fun j c' hj hc' => ?_⟩⟩
    · unfold c_has_only_2
      simp only [eq_self, decide_true, decide_false, Bool.not_true, Bool.not_false, true_and, and_true, wp_isi, isK, List.any_cons, List.any_nil, Bool.or_false, Bool.false_or, Bool.or_true, Bool.true_or, setS, retS, exprS, cstE, op1E, op2E, opnE, consA, nilA, valT, andT, orT, notT, iteE, andE, orE, notE, callE, methE, m0, m1, one, skipS, brkS, cntS, raiseS, subS, parS, var0, set0, var1, set1, var2, set2, var3, set3, var4, set4, var5, set5, var6, set6, var7, set7, var8, set8, var9, set9, var10, set10, var11, set11, var12, set12, var13, set13, var14, set14, var15, set15, var16, set16, var17, set17, var18, set18, var19, set19, wp_bnd, wpr, wpe, wp_chk, bndr, bnde, List.append_nil, List.nil_append, List.cons_append, cond_true, cond_false, decide_eq_true_eq, slc_s1, slc_s2, slc_s3, slc_t1, slc_t2, slc_t3, slc_l1, slc_l2, slc_l3, chk_i, sliceE, add_ii, sub_ii, mul_ii, fdiv_ii, mod_ii, pow_ii, eq_ii, ne_ii, lt_ii, le_ii, gt_ii, ge_ii, add_ss, add_tt, mul_si, eq_ss, ne_ss, eq_bb, neg_i, abs_i, int_i, int_b, len_s, len_t, len_k, max_ii, min_ii, tr_b, tr_i, tr_s, tr_n, ie_i, is_i, isnt_i, ie_s, is_s, isnt_s, ie_b, is_b, isnt_b, ie_t, is_t, isnt_t, ie_l, is_l, isnt_l, ie_k, is_k, isnt_k, ie_n, is_n, isnt_n, ie_e, in_ss, nin_ss, sub_si, sub_ti, kst, end_rt, end_nx]
      have e : (s.all fun x => cs.contains x) = false := by
        cases q : s.all fun x => cs.contains x with
        | false => rfl
        | true =>
          rw [List.all_eq_true] at q
          rw [q c (List.mem_of_getElem? hi)] at z
          cases z
      rw [e] at hq
      exact hq
    · by_cases q : j = i
      · subst q
        rw [hi] at hc'
        cases hc'
        simpa using z
      · exact h j c' (by omega) hc'
  · subst e eδ
    unfold c_has_only_3
    simp only [eq_self, decide_true, decide_false, Bool.not_true, Bool.not_false, true_and, and_true, wp_isi, isK, List.any_cons, List.any_nil, Bool.or_false, Bool.false_or, Bool.or_true, Bool.true_or, setS, retS, exprS, cstE, op1E, op2E, opnE, consA, nilA, valT, andT, orT, notT, iteE, andE, orE, notE, callE, methE, m0, m1, one, skipS, brkS, cntS, raiseS, subS, parS, var0, set0, var1, set1, var2, set2, var3, set3, var4, set4, var5, set5, var6, set6, var7, set7, var8, set8, var9, set9, var10, set10, var11, set11, var12, set12, var13, set13, var14, set14, var15, set15, var16, set16, var17, set17, var18, set18, var19, set19, wp_bnd, wpr, wpe, wp_chk, bndr, bnde, List.append_nil, List.nil_append, List.cons_append, cond_true, cond_false, decide_eq_true_eq, slc_s1, slc_s2, slc_s3, slc_t1, slc_t2, slc_t3, slc_l1, slc_l2, slc_l3, chk_i, sliceE, add_ii, sub_ii, mul_ii, fdiv_ii, mod_ii, pow_ii, eq_ii, ne_ii, lt_ii, le_ii, gt_ii, ge_ii, add_ss, add_tt, mul_si, eq_ss, ne_ss, eq_bb, neg_i, abs_i, int_i, int_b, len_s, len_t, len_k, max_ii, min_ii, tr_b, tr_i, tr_s, tr_n, ie_i, is_i, isnt_i, ie_s, is_s, isnt_s, ie_b, is_b, isnt_b, ie_t, is_t, isnt_t, ie_l, is_l, isnt_l, ie_k, is_k, isnt_k, ie_n, is_n, isnt_n, ie_e, in_ss, nin_ss, sub_si, sub_ti, kst, end_rt, end_nx]
    have e : (s.all fun x => cs.contains x) = true := by
      rw [List.all_eq_true]
      intro c hc
      obtain ⟨j, hj, ej⟩ := List.getElem_of_mem hc
      exact h j c hj (by rw [List.getElem?_eq_getElem hj, ej])
    rw [e] at hq
    exact hq
theorem sp_letters {n w : Nat} {S : Store} {Q : D → Store → Prop} {E : Nat → List D → Store → Prop} (h0 : 1 ≤ w) (h1 : w ≤ 5) (hq : Q (.str (sg w)) S) : Wp (callF LT (n + 2) i_letters [.int (w : Int)]) S Q E := by
  rw [e_letters]
  unfold c_letters
  refine wp_def (wp_seq ?_)
  unfold c_letters_0
  (try simp only [eq_self, decide_true, decide_false, Bool.not_true, Bool.not_false, true_and, and_true, wp_isi, isK, List.any_cons, List.any_nil, Bool.or_false, Bool.false_or, Bool.or_true, Bool.true_or, setS, retS, exprS, cstE, op1E, op2E, opnE, consA, nilA, valT, andT, orT, notT, iteE, andE, orE, notE, callE, methE, m0, m1, one, skipS, brkS, cntS, raiseS, subS, parS, var0, set0, var1, set1, var2, set2, var3, set3, var4, set4, var5, set5, var6, set6, var7, set7, var8, set8, var9, set9, var10, set10, var11, set11, var12, set12, var13, set13, var14, set14, var15, set15, var16, set16, var17, set17, var18, set18, var19, set19, wp_bnd, wpr, wpe, wp_chk, bndr, bnde, List.append_nil, List.nil_append, List.cons_append, cond_true, cond_false, decide_eq_true_eq, slc_s1, slc_s2, slc_s3, slc_t1, slc_t2, slc_t3, slc_l1, slc_l2, slc_l3, chk_i, sliceE, add_ii, sub_ii, mul_ii, fdiv_ii, mod_ii, pow_ii, eq_ii, ne_ii, lt_ii, le_ii, gt_ii, ge_ii, add_ss, add_tt, mul_si, eq_ss, ne_ss, eq_bb, neg_i, abs_i, int_i, int_b, len_s, len_t, len_k, max_ii, min_ii, tr_b, tr_i, tr_s, tr_n, ie_i, is_i, isnt_i, ie_s, is_s, isnt_s, ie_b, is_b, isnt_b, ie_t, is_t, isnt_t, ie_l, is_l, isnt_l, ie_k, is_k, isnt_k, ie_n, is_n, isnt_n, ie_e, in_ss, nin_ss, sub_si, sub_ti, kst, end_rt, end_nx])
  refine sp_check_count (fun _ => ?_) (fun z => absurd (⟨by omega, by omega⟩ : (1 : Int) ≤ (w : Int) ∧ (w : Int) ≤ 5) z)
  (try simp only [eq_self, decide_true, decide_false, Bool.not_true, Bool.not_false, true_and, and_true, wp_isi, isK, List.any_cons, List.any_nil, Bool.or_false, Bool.false_or, Bool.or_true, Bool.true_or, setS, retS, exprS, cstE, op1E, op2E, opnE, consA, nilA, valT, andT, orT, notT, iteE, andE, orE, notE, callE, methE, m0, m1, one, skipS, brkS, cntS, raiseS, subS, parS, var0, set0, var1, set1, var2, set2, var3, set3, var4, set4, var5, set5, var6, set6, var7, set7, var8, set8, var9, set9, var10, set10, var11, set11, var12, set12, var13, set13, var14, set14, var15, set15, var16, set16, var17, set17, var18, set18, var19, set19, wp_bnd, wpr, wpe, wp_chk, bndr, bnde, List.append_nil, List.nil_append, List.cons_append, cond_true, cond_false, decide_eq_true_eq, slc_s1, slc_s2, slc_s3, slc_t1, slc_t2, slc_t3, slc_l1, slc_l2, slc_l3, chk_i, sliceE, add_ii, sub_ii, mul_ii, fdiv_ii, mod_ii, pow_ii, eq_ii, ne_ii, lt_ii, le_ii, gt_ii, ge_ii, add_ss, add_tt, mul_si, eq_ss, ne_ss, eq_bb, neg_i, abs_i, int_i, int_b, len_s, len_t, len_k, max_ii, min_ii, tr_b, tr_i, tr_s, tr_n, ie_i, is_i, isnt_i, ie_s, is_s, isnt_s, ie_b, is_b, isnt_b, ie_t, is_t, isnt_t, ie_l, is_l, isnt_l, ie_k, is_k, isnt_k, ie_n, is_n, isnt_n, ie_e, in_ss, nin_ss, sub_si, sub_ti, kst, end_rt, end_nx])
  unfold c_letters_1
  simp only [eq_self, decide_true, decide_false, Bool.not_true, Bool.not_false, true_and, and_true, wp_isi, isK, List.any_cons, List.any_nil, Bool.or_false, Bool.false_or, Bool.or_true, Bool.true_or, setS, retS, exprS, cstE, op1E, op2E, opnE, consA, nilA, valT, andT, orT, notT, iteE, andE, orE, notE, callE, methE, m0, m1, one, skipS, brkS, cntS, raiseS, subS, parS, var0, set0, var1, set1, var2, set2, var3, set3, var4, set4, var5, set5, var6, set6, var7, set7, var8, set8, var9, set9, var10, set10, var11, set11, var12, set12, var13, set13, var14, set14, var15, set15, var16, set16, var17, set17, var18, set18, var19, set19, wp_bnd, wpr, wpe, wp_chk, bndr, bnde, List.append_nil, List.nil_append, List.cons_append, cond_true, cond_false, decide_eq_true_eq, slc_s1, slc_s2, slc_s3, slc_t1, slc_t2, slc_t3, slc_l1, slc_l2, slc_l3, chk_i, sliceE, add_ii, sub_ii, mul_ii, fdiv_ii, mod_ii, pow_ii, eq_ii, ne_ii, lt_ii, le_ii, gt_ii, ge_ii, add_ss, add_tt, mul_si, eq_ss, ne_ss, eq_bb, neg_i, abs_i, int_i, int_b, len_s, len_t, len_k, max_ii, min_ii, tr_b, tr_i, tr_s, tr_n, ie_i, is_i, isnt_i, ie_s, is_s, isnt_s, ie_b, is_b, isnt_b, ie_t, is_t, isnt_t, ie_l, is_l, isnt_l, ie_k, is_k, isnt_k, ie_n, is_n, isnt_n, ie_e, in_ss, nin_ss, sub_si, sub_ti, kst, end_rt, end_nx, sg_cut h1]
  exact hq
theorem sp_most_rounds {n w : Nat} {S : Store} {Q : D → Store → Prop} {E : Nat → List D → Store → Prop} (h0 : 1 ≤ w) (h1 : w ≤ 5) (hq : Q (.int (most w : Nat)) S) : Wp (callF LT (n + 2) i_most_rounds [.int (w : Int)]) S Q E := by
  rw [e_most_rounds]
  unfold c_most_rounds
  refine wp_def (wp_seq ?_)
  unfold c_most_rounds_0
  (try simp only [eq_self, decide_true, decide_false, Bool.not_true, Bool.not_false, true_and, and_true, wp_isi, isK, List.any_cons, List.any_nil, Bool.or_false, Bool.false_or, Bool.or_true, Bool.true_or, setS, retS, exprS, cstE, op1E, op2E, opnE, consA, nilA, valT, andT, orT, notT, iteE, andE, orE, notE, callE, methE, m0, m1, one, skipS, brkS, cntS, raiseS, subS, parS, var0, set0, var1, set1, var2, set2, var3, set3, var4, set4, var5, set5, var6, set6, var7, set7, var8, set8, var9, set9, var10, set10, var11, set11, var12, set12, var13, set13, var14, set14, var15, set15, var16, set16, var17, set17, var18, set18, var19, set19, wp_bnd, wpr, wpe, wp_chk, bndr, bnde, List.append_nil, List.nil_append, List.cons_append, cond_true, cond_false, decide_eq_true_eq, slc_s1, slc_s2, slc_s3, slc_t1, slc_t2, slc_t3, slc_l1, slc_l2, slc_l3, chk_i, sliceE, add_ii, sub_ii, mul_ii, fdiv_ii, mod_ii, pow_ii, eq_ii, ne_ii, lt_ii, le_ii, gt_ii, ge_ii, add_ss, add_tt, mul_si, eq_ss, ne_ss, eq_bb, neg_i, abs_i, int_i, int_b, len_s, len_t, len_k, max_ii, min_ii, tr_b, tr_i, tr_s, tr_n, ie_i, is_i, isnt_i, ie_s, is_s, isnt_s, ie_b, is_b, isnt_b, ie_t, is_t, isnt_t, ie_l, is_l, isnt_l, ie_k, is_k, isnt_k, ie_n, is_n, isnt_n, ie_e, in_ss, nin_ss, sub_si, sub_ti, kst, end_rt, end_nx])
  refine sp_check_count (fun _ => ?_) (fun z => absurd (⟨by omega, by omega⟩ : (1 : Int) ≤ (w : Int) ∧ (w : Int) ≤ 5) z)
  (try simp only [eq_self, decide_true, decide_false, Bool.not_true, Bool.not_false, true_and, and_true, wp_isi, isK, List.any_cons, List.any_nil, Bool.or_false, Bool.false_or, Bool.or_true, Bool.true_or, setS, retS, exprS, cstE, op1E, op2E, opnE, consA, nilA, valT, andT, orT, notT, iteE, andE, orE, notE, callE, methE, m0, m1, one, skipS, brkS, cntS, raiseS, subS, parS, var0, set0, var1, set1, var2, set2, var3, set3, var4, set4, var5, set5, var6, set6, var7, set7, var8, set8, var9, set9, var10, set10, var11, set11, var12, set12, var13, set13, var14, set14, var15, set15, var16, set16, var17, set17, var18, set18, var19, set19, wp_bnd, wpr, wpe, wp_chk, bndr, bnde, List.append_nil, List.nil_append, List.cons_append, cond_true, cond_false, decide_eq_true_eq, slc_s1, slc_s2, slc_s3, slc_t1, slc_t2, slc_t3, slc_l1, slc_l2, slc_l3, chk_i, sliceE, add_ii, sub_ii, mul_ii, fdiv_ii, mod_ii, pow_ii, eq_ii, ne_ii, lt_ii, le_ii, gt_ii, ge_ii, add_ss, add_tt, mul_si, eq_ss, ne_ss, eq_bb, neg_i, abs_i, int_i, int_b, len_s, len_t, len_k, max_ii, min_ii, tr_b, tr_i, tr_s, tr_n, ie_i, is_i, isnt_i, ie_s, is_s, isnt_s, ie_b, is_b, isnt_b, ie_t, is_t, isnt_t, ie_l, is_l, isnt_l, ie_k, is_k, isnt_k, ie_n, is_n, isnt_n, ie_e, in_ss, nin_ss, sub_si, sub_ti, kst, end_rt, end_nx])
  unfold c_most_rounds_1
  (try simp only [eq_self, decide_true, decide_false, Bool.not_true, Bool.not_false, true_and, and_true, wp_isi, isK, List.any_cons, List.any_nil, Bool.or_false, Bool.false_or, Bool.or_true, Bool.true_or, setS, retS, exprS, cstE, op1E, op2E, opnE, consA, nilA, valT, andT, orT, notT, iteE, andE, orE, notE, callE, methE, m0, m1, one, skipS, brkS, cntS, raiseS, subS, parS, var0, set0, var1, set1, var2, set2, var3, set3, var4, set4, var5, set5, var6, set6, var7, set7, var8, set8, var9, set9, var10, set10, var11, set11, var12, set12, var13, set13, var14, set14, var15, set15, var16, set16, var17, set17, var18, set18, var19, set19, wp_bnd, wpr, wpe, wp_chk, bndr, bnde, List.append_nil, List.nil_append, List.cons_append, cond_true, cond_false, decide_eq_true_eq, slc_s1, slc_s2, slc_s3, slc_t1, slc_t2, slc_t3, slc_l1, slc_l2, slc_l3, chk_i, sliceE, add_ii, sub_ii, mul_ii, fdiv_ii, mod_ii, pow_ii, eq_ii, ne_ii, lt_ii, le_ii, gt_ii, ge_ii, add_ss, add_tt, mul_si, eq_ss, ne_ss, eq_bb, neg_i, abs_i, int_i, int_b, len_s, len_t, len_k, max_ii, min_ii, tr_b, tr_i, tr_s, tr_n, ie_i, is_i, isnt_i, ie_s, is_s, isnt_s, ie_b, is_b, isnt_b, ie_t, is_t, isnt_t, ie_l, is_l, isnt_l, ie_k, is_k, isnt_k, ie_n, is_n, isnt_n, ie_e, in_ss, nin_ss, sub_si, sub_ti, kst, end_rt, end_nx])
  have e : ([D.int 8, .int 8, .int 5, .int 4, .int 3])[w - 1]? = some (.int (most w : Nat)) := by
    match w, h0, h1 with
    | 1, _, _ => rfl
    | 2, _, _ => rfl
    | 3, _, _ => rfl
    | 4, _, _ => rfl
    | 5, _, _ => rfl
    | w + 6, _, h => omega
  rw [show ((w : Int) - 1) = ((w - 1 : Nat) : Int) by omega, wp_atL e]
  (try simp only [eq_self, decide_true, decide_false, Bool.not_true, Bool.not_false, true_and, and_true, wp_isi, isK, List.any_cons, List.any_nil, Bool.or_false, Bool.false_or, Bool.or_true, Bool.true_or, setS, retS, exprS, cstE, op1E, op2E, opnE, consA, nilA, valT, andT, orT, notT, iteE, andE, orE, notE, callE, methE, m0, m1, one, skipS, brkS, cntS, raiseS, subS, parS, var0, set0, var1, set1, var2, set2, var3, set3, var4, set4, var5, set5, var6, set6, var7, set7, var8, set8, var9, set9, var10, set10, var11, set11, var12, set12, var13, set13, var14, set14, var15, set15, var16, set16, var17, set17, var18, set18, var19, set19, wp_bnd, wpr, wpe, wp_chk, bndr, bnde, List.append_nil, List.nil_append, List.cons_append, cond_true, cond_false, decide_eq_true_eq, slc_s1, slc_s2, slc_s3, slc_t1, slc_t2, slc_t3, slc_l1, slc_l2, slc_l3, chk_i, sliceE, add_ii, sub_ii, mul_ii, fdiv_ii, mod_ii, pow_ii, eq_ii, ne_ii, lt_ii, le_ii, gt_ii, ge_ii, add_ss, add_tt, mul_si, eq_ss, ne_ss, eq_bb, neg_i, abs_i, int_i, int_b, len_s, len_t, len_k, max_ii, min_ii, tr_b, tr_i, tr_s, tr_n, ie_i, is_i, isnt_i, ie_s, is_s, isnt_s, ie_b, is_b, isnt_b, ie_t, is_t, isnt_t, ie_l, is_l, isnt_l, ie_k, is_k, isnt_k, ie_n, is_n, isnt_n, ie_e, in_ss, nin_ss, sub_si, sub_ti, kst, end_rt, end_nx])
  exact hq
theorem sp_check_text {n w m : Nat} {t : List Nat} {S : Store} {Q : D → Store → Prop} {E : Nat → List D → Store → Prop} (h0 : 1 ≤ w) (h1 : w ≤ 5) (hq : okT w m t = true → Q .non S) (he : okT w m t = false → E 7 [.str t] S) : Wp (callF LT (n + 3) i_check_text [.str t, .int (w : Int), .int (m : Int)]) S Q E := by
  rw [e_check_text]
  unfold c_check_text
  refine wp_def ?_
  unfold c_check_text_0
  refine wp_ite ?_
  simp only [eq_self, decide_true, decide_false, Bool.not_true, Bool.not_false, true_and, and_true, wp_isi, isK, List.any_cons, List.any_nil, Bool.or_false, Bool.false_or, Bool.or_true, Bool.true_or, setS, retS, exprS, cstE, op1E, op2E, opnE, consA, nilA, valT, andT, orT, notT, iteE, andE, orE, notE, callE, methE, m0, m1, one, skipS, brkS, cntS, raiseS, subS, parS, var0, set0, var1, set1, var2, set2, var3, set3, var4, set4, var5, set5, var6, set6, var7, set7, var8, set8, var9, set9, var10, set10, var11, set11, var12, set12, var13, set13, var14, set14, var15, set15, var16, set16, var17, set17, var18, set18, var19, set19, wp_bnd, wpr, wpe, wp_chk, bndr, bnde, List.append_nil, List.nil_append, List.cons_append, cond_true, cond_false, decide_eq_true_eq, slc_s1, slc_s2, slc_s3, slc_t1, slc_t2, slc_t3, slc_l1, slc_l2, slc_l3, chk_i, sliceE, add_ii, sub_ii, mul_ii, fdiv_ii, mod_ii, pow_ii, eq_ii, ne_ii, lt_ii, le_ii, gt_ii, ge_ii, add_ss, add_tt, mul_si, eq_ss, ne_ss, eq_bb, neg_i, abs_i, int_i, int_b, len_s, len_t, len_k, max_ii, min_ii, tr_b, tr_i, tr_s, tr_n, ie_i, is_i, isnt_i, ie_s, is_s, isnt_s, ie_b, is_b, isnt_b, ie_t, is_t, isnt_t, ie_l, is_l, isnt_l, ie_k, is_k, isnt_k, ie_n, is_n, isnt_n, ie_e, in_ss, nin_ss, sub_si, sub_ti, kst, end_rt, end_nx, wp_if]
  have raise : ∀ {Q' : Fl → Store → Prop}, okT w m t = false → Wp (c_check_text_1 (callF LT (n + 2)) [some (.str t), some (.int (w : Int)), some (.int (m : Int))]) S Q' E := by
    intro Q' z
    unfold c_check_text_1
    simp only [eq_self, decide_true, decide_false, Bool.not_true, Bool.not_false, true_and, and_true, wp_isi, isK, List.any_cons, List.any_nil, Bool.or_false, Bool.false_or, Bool.or_true, Bool.true_or, setS, retS, exprS, cstE, op1E, op2E, opnE, consA, nilA, valT, andT, orT, notT, iteE, andE, orE, notE, callE, methE, m0, m1, one, skipS, brkS, cntS, raiseS, subS, parS, var0, set0, var1, set1, var2, set2, var3, set3, var4, set4, var5, set5, var6, set6, var7, set7, var8, set8, var9, set9, var10, set10, var11, set11, var12, set12, var13, set13, var14, set14, var15, set15, var16, set16, var17, set17, var18, set18, var19, set19, wp_bnd, wpr, wpe, wp_chk, bndr, bnde, List.append_nil, List.nil_append, List.cons_append, cond_true, cond_false, decide_eq_true_eq, slc_s1, slc_s2, slc_s3, slc_t1, slc_t2, slc_t3, slc_l1, slc_l2, slc_l3, chk_i, sliceE, add_ii, sub_ii, mul_ii, fdiv_ii, mod_ii, pow_ii, eq_ii, ne_ii, lt_ii, le_ii, gt_ii, ge_ii, add_ss, add_tt, mul_si, eq_ss, ne_ss, eq_bb, neg_i, abs_i, int_i, int_b, len_s, len_t, len_k, max_ii, min_ii, tr_b, tr_i, tr_s, tr_n, ie_i, is_i, isnt_i, ie_s, is_s, isnt_s, ie_b, is_b, isnt_b, ie_t, is_t, isnt_t, ie_l, is_l, isnt_l, ie_k, is_k, isnt_k, ie_n, is_n, isnt_n, ie_e, in_ss, nin_ss, sub_si, sub_ti, kst, end_rt, end_nx]
    exact ⟨rfl, he z⟩
  by_cases q1 : (m : Int) < (t.length : Int)
  · simp only [q1, eq_self, decide_true, decide_false, Bool.not_true, Bool.not_false, true_and, and_true, wp_isi, isK, List.any_cons, List.any_nil, Bool.or_false, Bool.false_or, Bool.or_true, Bool.true_or, setS, retS, exprS, cstE, op1E, op2E, opnE, consA, nilA, valT, andT, orT, notT, iteE, andE, orE, notE, callE, methE, m0, m1, one, skipS, brkS, cntS, raiseS, subS, parS, var0, set0, var1, set1, var2, set2, var3, set3, var4, set4, var5, set5, var6, set6, var7, set7, var8, set8, var9, set9, var10, set10, var11, set11, var12, set12, var13, set13, var14, set14, var15, set15, var16, set16, var17, set17, var18, set18, var19, set19, wp_bnd, wpr, wpe, wp_chk, bndr, bnde, List.append_nil, List.nil_append, List.cons_append, cond_true, cond_false, decide_eq_true_eq, slc_s1, slc_s2, slc_s3, slc_t1, slc_t2, slc_t3, slc_l1, slc_l2, slc_l3, chk_i, sliceE, add_ii, sub_ii, mul_ii, fdiv_ii, mod_ii, pow_ii, eq_ii, ne_ii, lt_ii, le_ii, gt_ii, ge_ii, add_ss, add_tt, mul_si, eq_ss, ne_ss, eq_bb, neg_i, abs_i, int_i, int_b, len_s, len_t, len_k, max_ii, min_ii, tr_b, tr_i, tr_s, tr_n, ie_i, is_i, isnt_i, ie_s, is_s, isnt_s, ie_b, is_b, isnt_b, ie_t, is_t, isnt_t, ie_l, is_l, isnt_l, ie_k, is_k, isnt_k, ie_n, is_n, isnt_n, ie_e, in_ss, nin_ss, sub_si, sub_ti, kst, end_rt, end_nx]
    exact ⟨fun _ => raise (by unfold okT; rw [decide_eq_false (by omega)]; rfl), fun z => by cases z⟩
  · simp only [q1, eq_self, decide_true, decide_false, Bool.not_true, Bool.not_false, true_and, and_true, wp_isi, isK, List.any_cons, List.any_nil, Bool.or_false, Bool.false_or, Bool.or_true, Bool.true_or, setS, retS, exprS, cstE, op1E, op2E, opnE, consA, nilA, valT, andT, orT, notT, iteE, andE, orE, notE, callE, methE, m0, m1, one, skipS, brkS, cntS, raiseS, subS, parS, var0, set0, var1, set1, var2, set2, var3, set3, var4, set4, var5, set5, var6, set6, var7, set7, var8, set8, var9, set9, var10, set10, var11, set11, var12, set12, var13, set13, var14, set14, var15, set15, var16, set16, var17, set17, var18, set18, var19, set19, wp_bnd, wpr, wpe, wp_chk, bndr, bnde, List.append_nil, List.nil_append, List.cons_append, cond_true, cond_false, decide_eq_true_eq, slc_s1, slc_s2, slc_s3, slc_t1, slc_t2, slc_t3, slc_l1, slc_l2, slc_l3, chk_i, sliceE, add_ii, sub_ii, mul_ii, fdiv_ii, mod_ii, pow_ii, eq_ii, ne_ii, lt_ii, le_ii, gt_ii, ge_ii, add_ss, add_tt, mul_si, eq_ss, ne_ss, eq_bb, neg_i, abs_i, int_i, int_b, len_s, len_t, len_k, max_ii, min_ii, tr_b, tr_i, tr_s, tr_n, ie_i, is_i, isnt_i, ie_s, is_s, isnt_s, ie_b, is_b, isnt_b, ie_t, is_t, isnt_t, ie_l, is_l, isnt_l, ie_k, is_k, isnt_k, ie_n, is_n, isnt_n, ie_e, in_ss, nin_ss, sub_si, sub_ti, kst, end_rt, end_nx]
    refine sp_letters h0 h1 ?_
    (try simp only [eq_self, decide_true, decide_false, Bool.not_true, Bool.not_false, true_and, and_true, wp_isi, isK, List.any_cons, List.any_nil, Bool.or_false, Bool.false_or, Bool.or_true, Bool.true_or, setS, retS, exprS, cstE, op1E, op2E, opnE, consA, nilA, valT, andT, orT, notT, iteE, andE, orE, notE, callE, methE, m0, m1, one, skipS, brkS, cntS, raiseS, subS, parS, var0, set0, var1, set1, var2, set2, var3, set3, var4, set4, var5, set5, var6, set6, var7, set7, var8, set8, var9, set9, var10, set10, var11, set11, var12, set12, var13, set13, var14, set14, var15, set15, var16, set16, var17, set17, var18, set18, var19, set19, wp_bnd, wpr, wpe, wp_chk, bndr, bnde, List.append_nil, List.nil_append, List.cons_append, cond_true, cond_false, decide_eq_true_eq, slc_s1, slc_s2, slc_s3, slc_t1, slc_t2, slc_t3, slc_l1, slc_l2, slc_l3, chk_i, sliceE, add_ii, sub_ii, mul_ii, fdiv_ii, mod_ii, pow_ii, eq_ii, ne_ii, lt_ii, le_ii, gt_ii, ge_ii, add_ss, add_tt, mul_si, eq_ss, ne_ss, eq_bb, neg_i, abs_i, int_i, int_b, len_s, len_t, len_k, max_ii, min_ii, tr_b, tr_i, tr_s, tr_n, ie_i, is_i, isnt_i, ie_s, is_s, isnt_s, ie_b, is_b, isnt_b, ie_t, is_t, isnt_t, ie_l, is_l, isnt_l, ie_k, is_k, isnt_k, ie_n, is_n, isnt_n, ie_e, in_ss, nin_ss, sub_si, sub_ti, kst, end_rt, end_nx])
    refine sp_has_only ?_
    (try simp only [eq_self, decide_true, decide_false, Bool.not_true, Bool.not_false, true_and, and_true, wp_isi, isK, List.any_cons, List.any_nil, Bool.or_false, Bool.false_or, Bool.or_true, Bool.true_or, setS, retS, exprS, cstE, op1E, op2E, opnE, consA, nilA, valT, andT, orT, notT, iteE, andE, orE, notE, callE, methE, m0, m1, one, skipS, brkS, cntS, raiseS, subS, parS, var0, set0, var1, set1, var2, set2, var3, set3, var4, set4, var5, set5, var6, set6, var7, set7, var8, set8, var9, set9, var10, set10, var11, set11, var12, set12, var13, set13, var14, set14, var15, set15, var16, set16, var17, set17, var18, set18, var19, set19, wp_bnd, wpr, wpe, wp_chk, bndr, bnde, List.append_nil, List.nil_append, List.cons_append, cond_true, cond_false, decide_eq_true_eq, slc_s1, slc_s2, slc_s3, slc_t1, slc_t2, slc_t3, slc_l1, slc_l2, slc_l3, chk_i, sliceE, add_ii, sub_ii, mul_ii, fdiv_ii, mod_ii, pow_ii, eq_ii, ne_ii, lt_ii, le_ii, gt_ii, ge_ii, add_ss, add_tt, mul_si, eq_ss, ne_ss, eq_bb, neg_i, abs_i, int_i, int_b, len_s, len_t, len_k, max_ii, min_ii, tr_b, tr_i, tr_s, tr_n, ie_i, is_i, isnt_i, ie_s, is_s, isnt_s, ie_b, is_b, isnt_b, ie_t, is_t, isnt_t, ie_l, is_l, isnt_l, ie_k, is_k, isnt_k, ie_n, is_n, isnt_n, ie_e, in_ss, nin_ss, sub_si, sub_ti, kst, end_rt, end_nx])
    have e : okT w m t = t.all fun c => (sg w).contains c := by unfold okT; rw [decide_eq_true (by omega), Bool.true_and]
    rw [← e]
    exact ⟨fun z => raise (by simpa using z), fun z => hq (by simpa using z)⟩
theorem sp_check_order {n : Nat} {t : List Nat} {S : Store} {Q : D → Store → Prop} {E : Nat → List D → Store → Prop} (hq : isOrd t = true → Q .non S) (he : isOrd t = false → E 7 [.str t] S) : Wp (callF LT (n + 1) i_check_order [.str t]) S Q E := by
  rw [e_check_order]
  unfold c_check_order
  refine wp_def (wp_seq ?_)
  unfold c_check_order_0
  refine wp_ite ?_
  simp only [eq_self, decide_true, decide_false, Bool.not_true, Bool.not_false, true_and, and_true, wp_isi, isK, List.any_cons, List.any_nil, Bool.or_false, Bool.false_or, Bool.or_true, Bool.true_or, setS, retS, exprS, cstE, op1E, op2E, opnE, consA, nilA, valT, andT, orT, notT, iteE, andE, orE, notE, callE, methE, m0, m1, one, skipS, brkS, cntS, raiseS, subS, parS, var0, set0, var1, set1, var2, set2, var3, set3, var4, set4, var5, set5, var6, set6, var7, set7, var8, set8, var9, set9, var10, set10, var11, set11, var12, set12, var13, set13, var14, set14, var15, set15, var16, set16, var17, set17, var18, set18, var19, set19, wp_bnd, wpr, wpe, wp_chk, bndr, bnde, List.append_nil, List.nil_append, List.cons_append, cond_true, cond_false, decide_eq_true_eq, slc_s1, slc_s2, slc_s3, slc_t1, slc_t2, slc_t3, slc_l1, slc_l2, slc_l3, chk_i, sliceE, add_ii, sub_ii, mul_ii, fdiv_ii, mod_ii, pow_ii, eq_ii, ne_ii, lt_ii, le_ii, gt_ii, ge_ii, add_ss, add_tt, mul_si, eq_ss, ne_ss, eq_bb, neg_i, abs_i, int_i, int_b, len_s, len_t, len_k, max_ii, min_ii, tr_b, tr_i, tr_s, tr_n, ie_i, is_i, isnt_i, ie_s, is_s, isnt_s, ie_b, is_b, isnt_b, ie_t, is_t, isnt_t, ie_l, is_l, isnt_l, ie_k, is_k, isnt_k, ie_n, is_n, isnt_n, ie_e, in_ss, nin_ss, sub_si, sub_ti, kst, end_rt, end_nx, wp_if]
  have raise : ∀ {Q' : Fl → Store → Prop} {x}, isOrd t = false → Wp (c_check_order_1 (callF LT n) [some (.str t), x]) S Q' E := by
    intro Q' x z
    unfold c_check_order_1
    simp only [eq_self, decide_true, decide_false, Bool.not_true, Bool.not_false, true_and, and_true, wp_isi, isK, List.any_cons, List.any_nil, Bool.or_false, Bool.false_or, Bool.or_true, Bool.true_or, setS, retS, exprS, cstE, op1E, op2E, opnE, consA, nilA, valT, andT, orT, notT, iteE, andE, orE, notE, callE, methE, m0, m1, one, skipS, brkS, cntS, raiseS, subS, parS, var0, set0, var1, set1, var2, set2, var3, set3, var4, set4, var5, set5, var6, set6, var7, set7, var8, set8, var9, set9, var10, set10, var11, set11, var12, set12, var13, set13, var14, set14, var15, set15, var16, set16, var17, set17, var18, set18, var19, set19, wp_bnd, wpr, wpe, wp_chk, bndr, bnde, List.append_nil, List.nil_append, List.cons_append, cond_true, cond_false, decide_eq_true_eq, slc_s1, slc_s2, slc_s3, slc_t1, slc_t2, slc_t3, slc_l1, slc_l2, slc_l3, chk_i, sliceE, add_ii, sub_ii, mul_ii, fdiv_ii, mod_ii, pow_ii, eq_ii, ne_ii, lt_ii, le_ii, gt_ii, ge_ii, add_ss, add_tt, mul_si, eq_ss, ne_ss, eq_bb, neg_i, abs_i, int_i, int_b, len_s, len_t, len_k, max_ii, min_ii, tr_b, tr_i, tr_s, tr_n, ie_i, is_i, isnt_i, ie_s, is_s, isnt_s, ie_b, is_b, isnt_b, ie_t, is_t, isnt_t, ie_l, is_l, isnt_l, ie_k, is_k, isnt_k, ie_n, is_n, isnt_n, ie_e, in_ss, nin_ss, sub_si, sub_ti, kst, end_rt, end_nx]
    exact ⟨rfl, he z⟩
  by_cases q1 : (t.length : Int) < 1
  · simp only [q1, eq_self, decide_true, decide_false, Bool.not_true, Bool.not_false, true_and, and_true, wp_isi, isK, List.any_cons, List.any_nil, Bool.or_false, Bool.false_or, Bool.or_true, Bool.true_or, setS, retS, exprS, cstE, op1E, op2E, opnE, consA, nilA, valT, andT, orT, notT, iteE, andE, orE, notE, callE, methE, m0, m1, one, skipS, brkS, cntS, raiseS, subS, parS, var0, set0, var1, set1, var2, set2, var3, set3, var4, set4, var5, set5, var6, set6, var7, set7, var8, set8, var9, set9, var10, set10, var11, set11, var12, set12, var13, set13, var14, set14, var15, set15, var16, set16, var17, set17, var18, set18, var19, set19, wp_bnd, wpr, wpe, wp_chk, bndr, bnde, List.append_nil, List.nil_append, List.cons_append, cond_true, cond_false, decide_eq_true_eq, slc_s1, slc_s2, slc_s3, slc_t1, slc_t2, slc_t3, slc_l1, slc_l2, slc_l3, chk_i, sliceE, add_ii, sub_ii, mul_ii, fdiv_ii, mod_ii, pow_ii, eq_ii, ne_ii, lt_ii, le_ii, gt_ii, ge_ii, add_ss, add_tt, mul_si, eq_ss, ne_ss, eq_bb, neg_i, abs_i, int_i, int_b, len_s, len_t, len_k, max_ii, min_ii, tr_b, tr_i, tr_s, tr_n, ie_i, is_i, isnt_i, ie_s, is_s, isnt_s, ie_b, is_b, isnt_b, ie_t, is_t, isnt_t, ie_l, is_l, isnt_l, ie_k, is_k, isnt_k, ie_n, is_n, isnt_n, ie_e, in_ss, nin_ss, sub_si, sub_ti, kst, end_rt, end_nx]
    exact ⟨fun _ => raise (by unfold isOrd; rw [decide_eq_false (by omega)]; rfl), fun z => by cases z⟩
  simp only [q1, eq_self, decide_true, decide_false, Bool.not_true, Bool.not_false, true_and, and_true, wp_isi, isK, List.any_cons, List.any_nil, Bool.or_false, Bool.false_or, Bool.or_true, Bool.true_or, setS, retS, exprS, cstE, op1E, op2E, opnE, consA, nilA, valT, andT, orT, notT, iteE, andE, orE, notE, callE, methE, m0, m1, one, skipS, brkS, cntS, raiseS, subS, parS, var0, set0, var1, set1, var2, set2, var3, set3, var4, set4, var5, set5, var6, set6, var7, set7, var8, set8, var9, set9, var10, set10, var11, set11, var12, set12, var13, set13, var14, set14, var15, set15, var16, set16, var17, set17, var18, set18, var19, set19, wp_bnd, wpr, wpe, wp_chk, bndr, bnde, List.append_nil, List.nil_append, List.cons_append, cond_true, cond_false, decide_eq_true_eq, slc_s1, slc_s2, slc_s3, slc_t1, slc_t2, slc_t3, slc_l1, slc_l2, slc_l3, chk_i, sliceE, add_ii, sub_ii, mul_ii, fdiv_ii, mod_ii, pow_ii, eq_ii, ne_ii, lt_ii, le_ii, gt_ii, ge_ii, add_ss, add_tt, mul_si, eq_ss, ne_ss, eq_bb, neg_i, abs_i, int_i, int_b, len_s, len_t, len_k, max_ii, min_ii, tr_b, tr_i, tr_s, tr_n, ie_i, is_i, isnt_i, ie_s, is_s, isnt_s, ie_b, is_b, isnt_b, ie_t, is_t, isnt_t, ie_l, is_l, isnt_l, ie_k, is_k, isnt_k, ie_n, is_n, isnt_n, ie_e, in_ss, nin_ss, sub_si, sub_ti, kst, end_rt, end_nx]
  refine ⟨fun z => raise (by unfold isOrd; rw [Bool.and_assoc, Bool.and_eq_false_iff]; right; rw [decide_eq_false (by omega)]; rfl), fun z => ?_⟩
  have z : t.length ≤ 5 := by have := of_decide_eq_false z; omega
  have e : isOrd t = (sg t.length).all fun c => t.contains c := by unfold isOrd; rw [decide_eq_true (by omega), decide_eq_true z]; rfl
  unfold c_check_order_2
  refine wp_forI ?_
  simp only [eq_self, decide_true, decide_false, Bool.not_true, Bool.not_false, true_and, and_true, wp_isi, isK, List.any_cons, List.any_nil, Bool.or_false, Bool.false_or, Bool.or_true, Bool.true_or, setS, retS, exprS, cstE, op1E, op2E, opnE, consA, nilA, valT, andT, orT, notT, iteE, andE, orE, notE, callE, methE, m0, m1, one, skipS, brkS, cntS, raiseS, subS, parS, var0, set0, var1, set1, var2, set2, var3, set3, var4, set4, var5, set5, var6, set6, var7, set7, var8, set8, var9, set9, var10, set10, var11, set11, var12, set12, var13, set13, var14, set14, var15, set15, var16, set16, var17, set17, var18, set18, var19, set19, wp_bnd, wpr, wpe, wp_chk, bndr, bnde, List.append_nil, List.nil_append, List.cons_append, cond_true, cond_false, decide_eq_true_eq, slc_s1, slc_s2, slc_s3, slc_t1, slc_t2, slc_t3, slc_l1, slc_l2, slc_l3, chk_i, sliceE, add_ii, sub_ii, mul_ii, fdiv_ii, mod_ii, pow_ii, eq_ii, ne_ii, lt_ii, le_ii, gt_ii, ge_ii, add_ss, add_tt, mul_si, eq_ss, ne_ss, eq_bb, neg_i, abs_i, int_i, int_b, len_s, len_t, len_k, max_ii, min_ii, tr_b, tr_i, tr_s, tr_n, ie_i, is_i, isnt_i, ie_s, is_s, isnt_s, ie_b, is_b, isnt_b, ie_t, is_t, isnt_t, ie_l, is_l, isnt_l, ie_k, is_k, isnt_k, ie_n, is_n, isnt_n, ie_e, in_ss, nin_ss, sub_si, sub_ti, kst, end_rt, end_nx, seqI, itOf, sg_cut z]
  refine wp_strGo (fun i δ S' => S' = S ∧ (∃ x, δ = [some (.str t), x]) ∧ ∀ j c, j < i → (sg t.length)[j]? = some c → t.contains c = true) ⟨rfl, ⟨_, rfl⟩, fun j c h => absurd h (Nat.not_lt_zero _)⟩ (fun i c δ S' hi ⟨e1, ⟨x, eδ⟩, h⟩ => ?_) (fun δ S' ⟨e1, ⟨x, eδ⟩, h⟩ => ?_)
  · subst e1 eδ
    unfold c_check_order_3
    refine wp_ite ?_
    simp only [eq_self, decide_true, decide_false, Bool.not_true, Bool.not_false, true_and, and_true, wp_isi, isK, List.any_cons, List.any_nil, Bool.or_false, Bool.false_or, Bool.or_true, Bool.true_or, setS, retS, exprS, cstE, op1E, op2E, opnE, consA, nilA, valT, andT, orT, notT, iteE, andE, orE, notE, callE, methE, m0, m1, one, skipS, brkS, cntS, raiseS, subS, parS, var0, set0, var1, set1, var2, set2, var3, set3, var4, set4, var5, set5, var6, set6, var7, set7, var8, set8, var9, set9, var10, set10, var11, set11, var12, set12, var13, set13, var14, set14, var15, set15, var16, set16, var17, set17, var18, set18, var19, set19, wp_bnd, wpr, wpe, wp_chk, bndr, bnde, List.append_nil, List.nil_append, List.cons_append, cond_true, cond_false, decide_eq_true_eq, slc_s1, slc_s2, slc_s3, slc_t1, slc_t2, slc_t3, slc_l1, slc_l2, slc_l3, chk_i, sliceE, add_ii, sub_ii, mul_ii, fdiv_ii, mod_ii, pow_ii, eq_ii, ne_ii, lt_ii, le_ii, gt_ii, ge_ii, add_ss, add_tt, mul_si, eq_ss, ne_ss, eq_bb, neg_i, abs_i, int_i, int_b, len_s, len_t, len_k, max_ii, min_ii, tr_b, tr_i, tr_s, tr_n, ie_i, is_i, isnt_i, ie_s, is_s, isnt_s, ie_b, is_b, isnt_b, ie_t, is_t, isnt_t, ie_l, is_l, isnt_l, ie_k, is_k, isnt_k, ie_n, is_n, isnt_n, ie_e, in_ss, nin_ss, sub_si, sub_ti, kst, end_rt, end_nx, List.set, infixB1]
    refine ⟨fun z => ?_, fun z => ⟨rfl, ⟨_, rfl⟩, fun j c' hj hc' => ?_⟩⟩
    · unfold c_check_order_4
      simp only [eq_self, decide_true, decide_false, Bool.not_true, Bool.not_false, true_and, and_true, wp_isi, isK, List.any_cons, List.any_nil, Bool.or_false, Bool.false_or, Bool.or_true, Bool.true_or, setS, retS, exprS, cstE, op1E, op2E, opnE, consA, nilA, valT, andT, orT, notT, iteE, andE, orE, notE, callE, methE, m0, m1, one, skipS, brkS, cntS, raiseS, subS, parS, var0, set0, var1, set1, var2, set2, var3, set3, var4, set4, var5, set5, var6, set6, var7, set7, var8, set8, var9, set9, var10, set10, var11, set11, var12, set12, var13, set13, var14, set14, var15, set15, var16, set16, var17, set17, var18, set18, var19, set19, wp_bnd, wpr, wpe, wp_chk, bndr, bnde, List.append_nil, List.nil_append, List.cons_append, cond_true, cond_false, decide_eq_true_eq, slc_s1, slc_s2, slc_s3, slc_t1, slc_t2, slc_t3, slc_l1, slc_l2, slc_l3, chk_i, sliceE, add_ii, sub_ii, mul_ii, fdiv_ii, mod_ii, pow_ii, eq_ii, ne_ii, lt_ii, le_ii, gt_ii, ge_ii, add_ss, add_tt, mul_si, eq_ss, ne_ss, eq_bb, neg_i, abs_i, int_i, int_b, len_s, len_t, len_k, max_ii, min_ii, tr_b, tr_i, tr_s, tr_n, ie_i, is_i, isnt_i, ie_s, is_s, isnt_s, ie_b, is_b, isnt_b, ie_t, is_t, isnt_t, ie_l, is_l, isnt_l, ie_k, is_k, isnt_k, ie_n, is_n, isnt_n, ie_e, in_ss, nin_ss, sub_si, sub_ti, kst, end_rt, end_nx]
      refine ⟨rfl, he ?_⟩
      rw [e]
      cases q : (sg t.length).all fun c => t.contains c with
      | false => rfl
      | true =>
        rw [List.all_eq_true] at q
        rw [q c (List.mem_of_getElem? hi)] at z
        cases z
    · by_cases q : j = i
      · subst q
        rw [hi] at hc'
        cases hc'
        simpa using z
      · exact h j c' (by omega) hc'
  · subst e1 eδ
    refine hq ?_
    rw [e, List.all_eq_true]
    intro c hc
    obtain ⟨j, hj, ej⟩ := List.getElem_of_mem hc
    exact h j c hj (by rw [List.getElem?_eq_getElem hj, ej])
theorem idx_sg {c : Nat} (h : 48 ≤ c ∧ c < 53) {S : Store} {Q : D → Store → Prop} {E : Nat → List D → Store → Prop} : Wp (indexD (.str [48, 49, 50, 51, 52]) (.str [c])) S Q E = Q (.int ((c - 48 : Nat) : Int)) S := by
  obtain ⟨k, e⟩ : ∃ k, c = 48 + k := ⟨c - 48, by omega⟩
  subst e
  match k, h with
  | 0, _ => rfl
  | 1, _ => rfl
  | 2, _ => rfl
  | 3, _ => rfl
  | 4, _ => rfl
  | k + 5, h => omega
theorem sgs_map {s : List Nat} {f : Nat → Nat} {F : D → D} (h : ∀ c, c ∈ s → F (.str [c]) = .str [f c]) : (sgs s).map F = sgs (s.map f) := by
  unfold sgs
  rw [List.map_map, List.map_map]
  exact List.map_congr_left fun c hc => h c hc
def onC (f : Nat → Nat) : D → D
  | .str [c] => .str [f c]
  | d => d
theorem mem_sgs {s : List Nat} {d : D} (h : d ∈ sgs s) : ∃ c, c ∈ s ∧ d = .str [c] := by
  obtain ⟨c, hc, e⟩ := List.mem_map.mp h
  exact ⟨c, hc, e.symm⟩
theorem sp_renamed {n w : Nat} {o t : List Nat} {S : Store} {Q : D → Store → Prop} {E : Nat → List D → Store → Prop} (ho : Ord w o)
    (hq : okT w (most w) t = true → ∀ S', Pre S S' → Q (.str (rn o t)) S') (he : okT w (most w) t = false → E 7 [.str t] S) : Wp (callF LT (n + 4) i_renamed [.str o, .str t]) S Q E := by
  rw [e_renamed]
  unfold c_renamed
  refine wp_def (wp_seq ?_)
  unfold c_renamed_0
  (try simp only [eq_self, decide_true, decide_false, Bool.not_true, Bool.not_false, true_and, and_true, wp_isi, isK, List.any_cons, List.any_nil, Bool.or_false, Bool.false_or, Bool.or_true, Bool.true_or, setS, retS, exprS, cstE, op1E, op2E, opnE, consA, nilA, valT, andT, orT, notT, iteE, andE, orE, notE, callE, methE, m0, m1, one, skipS, brkS, cntS, raiseS, subS, parS, var0, set0, var1, set1, var2, set2, var3, set3, var4, set4, var5, set5, var6, set6, var7, set7, var8, set8, var9, set9, var10, set10, var11, set11, var12, set12, var13, set13, var14, set14, var15, set15, var16, set16, var17, set17, var18, set18, var19, set19, wp_bnd, wpr, wpe, wp_chk, bndr, bnde, List.append_nil, List.nil_append, List.cons_append, cond_true, cond_false, decide_eq_true_eq, slc_s1, slc_s2, slc_s3, slc_t1, slc_t2, slc_t3, slc_l1, slc_l2, slc_l3, chk_i, sliceE, add_ii, sub_ii, mul_ii, fdiv_ii, mod_ii, pow_ii, eq_ii, ne_ii, lt_ii, le_ii, gt_ii, ge_ii, add_ss, add_tt, mul_si, eq_ss, ne_ss, eq_bb, neg_i, abs_i, int_i, int_b, len_s, len_t, len_k, max_ii, min_ii, tr_b, tr_i, tr_s, tr_n, ie_i, is_i, isnt_i, ie_s, is_s, isnt_s, ie_b, is_b, isnt_b, ie_t, is_t, isnt_t, ie_l, is_l, isnt_l, ie_k, is_k, isnt_k, ie_n, is_n, isnt_n, ie_e, in_ss, nin_ss, sub_si, sub_ti, kst, end_rt, end_nx])
  refine sp_check_order (fun _ => ?_) (fun z => by rw [ho.isOrd] at z; cases z)
  (try simp only [eq_self, decide_true, decide_false, Bool.not_true, Bool.not_false, true_and, and_true, wp_isi, isK, List.any_cons, List.any_nil, Bool.or_false, Bool.false_or, Bool.or_true, Bool.true_or, setS, retS, exprS, cstE, op1E, op2E, opnE, consA, nilA, valT, andT, orT, notT, iteE, andE, orE, notE, callE, methE, m0, m1, one, skipS, brkS, cntS, raiseS, subS, parS, var0, set0, var1, set1, var2, set2, var3, set3, var4, set4, var5, set5, var6, set6, var7, set7, var8, set8, var9, set9, var10, set10, var11, set11, var12, set12, var13, set13, var14, set14, var15, set15, var16, set16, var17, set17, var18, set18, var19, set19, wp_bnd, wpr, wpe, wp_chk, bndr, bnde, List.append_nil, List.nil_append, List.cons_append, cond_true, cond_false, decide_eq_true_eq, slc_s1, slc_s2, slc_s3, slc_t1, slc_t2, slc_t3, slc_l1, slc_l2, slc_l3, chk_i, sliceE, add_ii, sub_ii, mul_ii, fdiv_ii, mod_ii, pow_ii, eq_ii, ne_ii, lt_ii, le_ii, gt_ii, ge_ii, add_ss, add_tt, mul_si, eq_ss, ne_ss, eq_bb, neg_i, abs_i, int_i, int_b, len_s, len_t, len_k, max_ii, min_ii, tr_b, tr_i, tr_s, tr_n, ie_i, is_i, isnt_i, ie_s, is_s, isnt_s, ie_b, is_b, isnt_b, ie_t, is_t, isnt_t, ie_l, is_l, isnt_l, ie_k, is_k, isnt_k, ie_n, is_n, isnt_n, ie_e, in_ss, nin_ss, sub_si, sub_ti, kst, end_rt, end_nx])
  refine wp_seq ?_
  unfold c_renamed_1
  simp only [eq_self, decide_true, decide_false, Bool.not_true, Bool.not_false, true_and, and_true, wp_isi, isK, List.any_cons, List.any_nil, Bool.or_false, Bool.false_or, Bool.or_true, Bool.true_or, setS, retS, exprS, cstE, op1E, op2E, opnE, consA, nilA, valT, andT, orT, notT, iteE, andE, orE, notE, callE, methE, m0, m1, one, skipS, brkS, cntS, raiseS, subS, parS, var0, set0, var1, set1, var2, set2, var3, set3, var4, set4, var5, set5, var6, set6, var7, set7, var8, set8, var9, set9, var10, set10, var11, set11, var12, set12, var13, set13, var14, set14, var15, set15, var16, set16, var17, set17, var18, set18, var19, set19, wp_bnd, wpr, wpe, wp_chk, bndr, bnde, List.append_nil, List.nil_append, List.cons_append, cond_true, cond_false, decide_eq_true_eq, slc_s1, slc_s2, slc_s3, slc_t1, slc_t2, slc_t3, slc_l1, slc_l2, slc_l3, chk_i, sliceE, add_ii, sub_ii, mul_ii, fdiv_ii, mod_ii, pow_ii, eq_ii, ne_ii, lt_ii, le_ii, gt_ii, ge_ii, add_ss, add_tt, mul_si, eq_ss, ne_ss, eq_bb, neg_i, abs_i, int_i, int_b, len_s, len_t, len_k, max_ii, min_ii, tr_b, tr_i, tr_s, tr_n, ie_i, is_i, isnt_i, ie_s, is_s, isnt_s, ie_b, is_b, isnt_b, ie_t, is_t, isnt_t, ie_l, is_l, isnt_l, ie_k, is_k, isnt_k, ie_n, is_n, isnt_n, ie_e, in_ss, nin_ss, sub_si, sub_ti, kst, end_rt, end_nx, ho.len]
  refine sp_most_rounds ho.lo ho.hi ?_
  (try simp only [eq_self, decide_true, decide_false, Bool.not_true, Bool.not_false, true_and, and_true, wp_isi, isK, List.any_cons, List.any_nil, Bool.or_false, Bool.false_or, Bool.or_true, Bool.true_or, setS, retS, exprS, cstE, op1E, op2E, opnE, consA, nilA, valT, andT, orT, notT, iteE, andE, orE, notE, callE, methE, m0, m1, one, skipS, brkS, cntS, raiseS, subS, parS, var0, set0, var1, set1, var2, set2, var3, set3, var4, set4, var5, set5, var6, set6, var7, set7, var8, set8, var9, set9, var10, set10, var11, set11, var12, set12, var13, set13, var14, set14, var15, set15, var16, set16, var17, set17, var18, set18, var19, set19, wp_bnd, wpr, wpe, wp_chk, bndr, bnde, List.append_nil, List.nil_append, List.cons_append, cond_true, cond_false, decide_eq_true_eq, slc_s1, slc_s2, slc_s3, slc_t1, slc_t2, slc_t3, slc_l1, slc_l2, slc_l3, chk_i, sliceE, add_ii, sub_ii, mul_ii, fdiv_ii, mod_ii, pow_ii, eq_ii, ne_ii, lt_ii, le_ii, gt_ii, ge_ii, add_ss, add_tt, mul_si, eq_ss, ne_ss, eq_bb, neg_i, abs_i, int_i, int_b, len_s, len_t, len_k, max_ii, min_ii, tr_b, tr_i, tr_s, tr_n, ie_i, is_i, isnt_i, ie_s, is_s, isnt_s, ie_b, is_b, isnt_b, ie_t, is_t, isnt_t, ie_l, is_l, isnt_l, ie_k, is_k, isnt_k, ie_n, is_n, isnt_n, ie_e, in_ss, nin_ss, sub_si, sub_ti, kst, end_rt, end_nx])
  refine sp_check_text ho.lo ho.hi (fun z => ?_) he
  (try simp only [eq_self, decide_true, decide_false, Bool.not_true, Bool.not_false, true_and, and_true, wp_isi, isK, List.any_cons, List.any_nil, Bool.or_false, Bool.false_or, Bool.or_true, Bool.true_or, setS, retS, exprS, cstE, op1E, op2E, opnE, consA, nilA, valT, andT, orT, notT, iteE, andE, orE, notE, callE, methE, m0, m1, one, skipS, brkS, cntS, raiseS, subS, parS, var0, set0, var1, set1, var2, set2, var3, set3, var4, set4, var5, set5, var6, set6, var7, set7, var8, set8, var9, set9, var10, set10, var11, set11, var12, set12, var13, set13, var14, set14, var15, set15, var16, set16, var17, set17, var18, set18, var19, set19, wp_bnd, wpr, wpe, wp_chk, bndr, bnde, List.append_nil, List.nil_append, List.cons_append, cond_true, cond_false, decide_eq_true_eq, slc_s1, slc_s2, slc_s3, slc_t1, slc_t2, slc_t3, slc_l1, slc_l2, slc_l3, chk_i, sliceE, add_ii, sub_ii, mul_ii, fdiv_ii, mod_ii, pow_ii, eq_ii, ne_ii, lt_ii, le_ii, gt_ii, ge_ii, add_ss, add_tt, mul_si, eq_ss, ne_ss, eq_bb, neg_i, abs_i, int_i, int_b, len_s, len_t, len_k, max_ii, min_ii, tr_b, tr_i, tr_s, tr_n, ie_i, is_i, isnt_i, ie_s, is_s, isnt_s, ie_b, is_b, isnt_b, ie_t, is_t, isnt_t, ie_l, is_l, isnt_l, ie_k, is_k, isnt_k, ie_n, is_n, isnt_n, ie_e, in_ss, nin_ss, sub_si, sub_ti, kst, end_rt, end_nx])
  have z2 := okT_iff.mp z
  have hm := (most_lt ho.lo ho.hi).2
  unfold c_renamed_2
  (try simp only [eq_self, decide_true, decide_false, Bool.not_true, Bool.not_false, true_and, and_true, wp_isi, isK, List.any_cons, List.any_nil, Bool.or_false, Bool.false_or, Bool.or_true, Bool.true_or, setS, retS, exprS, cstE, op1E, op2E, opnE, consA, nilA, valT, andT, orT, notT, iteE, andE, orE, notE, callE, methE, m0, m1, one, skipS, brkS, cntS, raiseS, subS, parS, var0, set0, var1, set1, var2, set2, var3, set3, var4, set4, var5, set5, var6, set6, var7, set7, var8, set8, var9, set9, var10, set10, var11, set11, var12, set12, var13, set13, var14, set14, var15, set15, var16, set16, var17, set17, var18, set18, var19, set19, wp_bnd, wpr, wpe, wp_chk, bndr, bnde, List.append_nil, List.nil_append, List.cons_append, cond_true, cond_false, decide_eq_true_eq, slc_s1, slc_s2, slc_s3, slc_t1, slc_t2, slc_t3, slc_l1, slc_l2, slc_l3, chk_i, sliceE, add_ii, sub_ii, mul_ii, fdiv_ii, mod_ii, pow_ii, eq_ii, ne_ii, lt_ii, le_ii, gt_ii, ge_ii, add_ss, add_tt, mul_si, eq_ss, ne_ss, eq_bb, neg_i, abs_i, int_i, int_b, len_s, len_t, len_k, max_ii, min_ii, tr_b, tr_i, tr_s, tr_n, ie_i, is_i, isnt_i, ie_s, is_s, isnt_s, ie_b, is_b, isnt_b, ie_t, is_t, isnt_t, ie_l, is_l, isnt_l, ie_k, is_k, isnt_k, ie_n, is_n, isnt_n, ie_e, in_ss, nin_ss, sub_si, sub_ti, kst, end_rt, end_nx])
  have e1 : (sgs t).map (onC fun c => o.getD (c - 48) 0) = sgs (rn o t) := sgs_map fun c _ => rfl
  refine wp_mapI (xs := sgs t) (onC fun c => o.getD (c - 48) 0) ?_ (noExc_sgs _) (by rw [sgs, List.length_map]; show _ ≤ 16777216; omega) (by rw [e1]; exact noExc_sgs _) (fun d hd S' _ => ?_) ?_
  · simp only [eq_self, decide_true, decide_false, Bool.not_true, Bool.not_false, true_and, and_true, wp_isi, isK, List.any_cons, List.any_nil, Bool.or_false, Bool.false_or, Bool.or_true, Bool.true_or, setS, retS, exprS, cstE, op1E, op2E, opnE, consA, nilA, valT, andT, orT, notT, iteE, andE, orE, notE, callE, methE, m0, m1, one, skipS, brkS, cntS, raiseS, subS, parS, var0, set0, var1, set1, var2, set2, var3, set3, var4, set4, var5, set5, var6, set6, var7, set7, var8, set8, var9, set9, var10, set10, var11, set11, var12, set12, var13, set13, var14, set14, var15, set15, var16, set16, var17, set17, var18, set18, var19, set19, wp_bnd, wpr, wpe, wp_chk, bndr, bnde, List.append_nil, List.nil_append, List.cons_append, cond_true, cond_false, decide_eq_true_eq, slc_s1, slc_s2, slc_s3, slc_t1, slc_t2, slc_t3, slc_l1, slc_l2, slc_l3, chk_i, sliceE, add_ii, sub_ii, mul_ii, fdiv_ii, mod_ii, pow_ii, eq_ii, ne_ii, lt_ii, le_ii, gt_ii, ge_ii, add_ss, add_tt, mul_si, eq_ss, ne_ss, eq_bb, neg_i, abs_i, int_i, int_b, len_s, len_t, len_k, max_ii, min_ii, tr_b, tr_i, tr_s, tr_n, ie_i, is_i, isnt_i, ie_s, is_s, isnt_s, ie_b, is_b, isnt_b, ie_t, is_t, isnt_t, ie_l, is_l, isnt_l, ie_k, is_k, isnt_k, ie_n, is_n, isnt_n, ie_e, in_ss, nin_ss, sub_si, sub_ti, kst, end_rt, end_nx, seqI]
    exact it_str
  · obtain ⟨c, hc, e⟩ := mem_sgs hd
    subst e
    have hc := z2.2 c hc
    have hi := ho.hi
    simp only [eq_self, decide_true, decide_false, Bool.not_true, Bool.not_false, true_and, and_true, wp_isi, isK, List.any_cons, List.any_nil, Bool.or_false, Bool.false_or, Bool.or_true, Bool.true_or, setS, retS, exprS, cstE, op1E, op2E, opnE, consA, nilA, valT, andT, orT, notT, iteE, andE, orE, notE, callE, methE, m0, m1, one, skipS, brkS, cntS, raiseS, subS, parS, var0, set0, var1, set1, var2, set2, var3, set3, var4, set4, var5, set5, var6, set6, var7, set7, var8, set8, var9, set9, var10, set10, var11, set11, var12, set12, var13, set13, var14, set14, var15, set15, var16, set16, var17, set17, var18, set18, var19, set19, wp_bnd, wpr, wpe, wp_chk, bndr, bnde, List.append_nil, List.nil_append, List.cons_append, cond_true, cond_false, decide_eq_true_eq, slc_s1, slc_s2, slc_s3, slc_t1, slc_t2, slc_t3, slc_l1, slc_l2, slc_l3, chk_i, sliceE, add_ii, sub_ii, mul_ii, fdiv_ii, mod_ii, pow_ii, eq_ii, ne_ii, lt_ii, le_ii, gt_ii, ge_ii, add_ss, add_tt, mul_si, eq_ss, ne_ss, eq_bb, neg_i, abs_i, int_i, int_b, len_s, len_t, len_k, max_ii, min_ii, tr_b, tr_i, tr_s, tr_n, ie_i, is_i, isnt_i, ie_s, is_s, isnt_s, ie_b, is_b, isnt_b, ie_t, is_t, isnt_t, ie_l, is_l, isnt_l, ie_k, is_k, isnt_k, ie_n, is_n, isnt_n, ie_e, in_ss, nin_ss, sub_si, sub_ti, kst, end_rt, end_nx, forget, List.set, idx_sg (show 48 ≤ c ∧ c < 53 by omega)]
    obtain ⟨y, hy, q⟩ := ho.get (k := c - 48) (by omega)
    rw [wp_atL q]
    (try simp only [eq_self, decide_true, decide_false, Bool.not_true, Bool.not_false, true_and, and_true, wp_isi, isK, List.any_cons, List.any_nil, Bool.or_false, Bool.false_or, Bool.or_true, Bool.true_or, setS, retS, exprS, cstE, op1E, op2E, opnE, consA, nilA, valT, andT, orT, notT, iteE, andE, orE, notE, callE, methE, m0, m1, one, skipS, brkS, cntS, raiseS, subS, parS, var0, set0, var1, set1, var2, set2, var3, set3, var4, set4, var5, set5, var6, set6, var7, set7, var8, set8, var9, set9, var10, set10, var11, set11, var12, set12, var13, set13, var14, set14, var15, set15, var16, set16, var17, set17, var18, set18, var19, set19, wp_bnd, wpr, wpe, wp_chk, bndr, bnde, List.append_nil, List.nil_append, List.cons_append, cond_true, cond_false, decide_eq_true_eq, slc_s1, slc_s2, slc_s3, slc_t1, slc_t2, slc_t3, slc_l1, slc_l2, slc_l3, chk_i, sliceE, add_ii, sub_ii, mul_ii, fdiv_ii, mod_ii, pow_ii, eq_ii, ne_ii, lt_ii, le_ii, gt_ii, ge_ii, add_ss, add_tt, mul_si, eq_ss, ne_ss, eq_bb, neg_i, abs_i, int_i, int_b, len_s, len_t, len_k, max_ii, min_ii, tr_b, tr_i, tr_s, tr_n, ie_i, is_i, isnt_i, ie_s, is_s, isnt_s, ie_b, is_b, isnt_b, ie_t, is_t, isnt_t, ie_l, is_l, isnt_l, ie_k, is_k, isnt_k, ie_n, is_n, isnt_n, ie_e, in_ss, nin_ss, sub_si, sub_ti, kst, end_rt, end_nx])
    exact congrArg (fun z => D.str [z]) (getD_of q).symm
  · (try simp only [eq_self, decide_true, decide_false, Bool.not_true, Bool.not_false, true_and, and_true, wp_isi, isK, List.any_cons, List.any_nil, Bool.or_false, Bool.false_or, Bool.or_true, Bool.true_or, setS, retS, exprS, cstE, op1E, op2E, opnE, consA, nilA, valT, andT, orT, notT, iteE, andE, orE, notE, callE, methE, m0, m1, one, skipS, brkS, cntS, raiseS, subS, parS, var0, set0, var1, set1, var2, set2, var3, set3, var4, set4, var5, set5, var6, set6, var7, set7, var8, set8, var9, set9, var10, set10, var11, set11, var12, set12, var13, set13, var14, set14, var15, set15, var16, set16, var17, set17, var18, set18, var19, set19, wp_bnd, wpr, wpe, wp_chk, bndr, bnde, List.append_nil, List.nil_append, List.cons_append, cond_true, cond_false, decide_eq_true_eq, slc_s1, slc_s2, slc_s3, slc_t1, slc_t2, slc_t3, slc_l1, slc_l2, slc_l3, chk_i, sliceE, add_ii, sub_ii, mul_ii, fdiv_ii, mod_ii, pow_ii, eq_ii, ne_ii, lt_ii, le_ii, gt_ii, ge_ii, add_ss, add_tt, mul_si, eq_ss, ne_ss, eq_bb, neg_i, abs_i, int_i, int_b, len_s, len_t, len_k, max_ii, min_ii, tr_b, tr_i, tr_s, tr_n, ie_i, is_i, isnt_i, ie_s, is_s, isnt_s, ie_b, is_b, isnt_b, ie_t, is_t, isnt_t, ie_l, is_l, isnt_l, ie_k, is_k, isnt_k, ie_n, is_n, isnt_n, ie_e, in_ss, nin_ss, sub_si, sub_ti, kst, end_rt, end_nx])
    rw [e1]
    exact wp_join0 at_new (by rw [rn_len]; show _ ≤ 16777216; omega) (hq z _ .app)
theorem sp_renamed_no {n : Nat} {o : List Nat} {t : D} {S : Store} {Q : D → Store → Prop} {E : Nat → List D → Store → Prop} (ho : isOrd o = false) (he : E 7 [.str o] S) : Wp (callF LT (n + 4) i_renamed [.str o, t]) S Q E := by
  rw [e_renamed]
  unfold c_renamed
  refine wp_def (wp_seq ?_)
  unfold c_renamed_0
  (try simp only [eq_self, decide_true, decide_false, Bool.not_true, Bool.not_false, true_and, and_true, wp_isi, isK, List.any_cons, List.any_nil, Bool.or_false, Bool.false_or, Bool.or_true, Bool.true_or, setS, retS, exprS, cstE, op1E, op2E, opnE, consA, nilA, valT, andT, orT, notT, iteE, andE, orE, notE, callE, methE, m0, m1, one, skipS, brkS, cntS, raiseS, subS, parS, var0, set0, var1, set1, var2, set2, var3, set3, var4, set4, var5, set5, var6, set6, var7, set7, var8, set8, var9, set9, var10, set10, var11, set11, var12, set12, var13, set13, var14, set14, var15, set15, var16, set16, var17, set17, var18, set18, var19, set19, wp_bnd, wpr, wpe, wp_chk, bndr, bnde, List.append_nil, List.nil_append, List.cons_append, cond_true, cond_false, decide_eq_true_eq, slc_s1, slc_s2, slc_s3, slc_t1, slc_t2, slc_t3, slc_l1, slc_l2, slc_l3, chk_i, sliceE, add_ii, sub_ii, mul_ii, fdiv_ii, mod_ii, pow_ii, eq_ii, ne_ii, lt_ii, le_ii, gt_ii, ge_ii, add_ss, add_tt, mul_si, eq_ss, ne_ss, eq_bb, neg_i, abs_i, int_i, int_b, len_s, len_t, len_k, max_ii, min_ii, tr_b, tr_i, tr_s, tr_n, ie_i, is_i, isnt_i, ie_s, is_s, isnt_s, ie_b, is_b, isnt_b, ie_t, is_t, isnt_t, ie_l, is_l, isnt_l, ie_k, is_k, isnt_k, ie_n, is_n, isnt_n, ie_e, in_ss, nin_ss, sub_si, sub_ti, kst, end_rt, end_nx])
  exact sp_check_order (fun z => by rw [ho] at z; cases z) fun _ => he
theorem sp_back_order {n w : Nat} {o : List Nat} {S : Store} {Q : D → Store → Prop} {E : Nat → List D → Store → Prop} (ho : Ord w o)
    (hq : ∀ S', Pre S S' → Q (.str (bk o)) S') : Wp (callF LT (n + 2) i_back_order [.str o]) S Q E := by
  rw [e_back_order]
  unfold c_back_order
  refine wp_def (wp_seq ?_)
  unfold c_back_order_0
  (try simp only [eq_self, decide_true, decide_false, Bool.not_true, Bool.not_false, true_and, and_true, wp_isi, isK, List.any_cons, List.any_nil, Bool.or_false, Bool.false_or, Bool.or_true, Bool.true_or, setS, retS, exprS, cstE, op1E, op2E, opnE, consA, nilA, valT, andT, orT, notT, iteE, andE, orE, notE, callE, methE, m0, m1, one, skipS, brkS, cntS, raiseS, subS, parS, var0, set0, var1, set1, var2, set2, var3, set3, var4, set4, var5, set5, var6, set6, var7, set7, var8, set8, var9, set9, var10, set10, var11, set11, var12, set12, var13, set13, var14, set14, var15, set15, var16, set16, var17, set17, var18, set18, var19, set19, wp_bnd, wpr, wpe, wp_chk, bndr, bnde, List.append_nil, List.nil_append, List.cons_append, cond_true, cond_false, decide_eq_true_eq, slc_s1, slc_s2, slc_s3, slc_t1, slc_t2, slc_t3, slc_l1, slc_l2, slc_l3, chk_i, sliceE, add_ii, sub_ii, mul_ii, fdiv_ii, mod_ii, pow_ii, eq_ii, ne_ii, lt_ii, le_ii, gt_ii, ge_ii, add_ss, add_tt, mul_si, eq_ss, ne_ss, eq_bb, neg_i, abs_i, int_i, int_b, len_s, len_t, len_k, max_ii, min_ii, tr_b, tr_i, tr_s, tr_n, ie_i, is_i, isnt_i, ie_s, is_s, isnt_s, ie_b, is_b, isnt_b, ie_t, is_t, isnt_t, ie_l, is_l, isnt_l, ie_k, is_k, isnt_k, ie_n, is_n, isnt_n, ie_e, in_ss, nin_ss, sub_si, sub_ti, kst, end_rt, end_nx])
  refine sp_check_order (fun _ => ?_) (fun z => by rw [ho.isOrd] at z; cases z)
  (try simp only [eq_self, decide_true, decide_false, Bool.not_true, Bool.not_false, true_and, and_true, wp_isi, isK, List.any_cons, List.any_nil, Bool.or_false, Bool.false_or, Bool.or_true, Bool.true_or, setS, retS, exprS, cstE, op1E, op2E, opnE, consA, nilA, valT, andT, orT, notT, iteE, andE, orE, notE, callE, methE, m0, m1, one, skipS, brkS, cntS, raiseS, subS, parS, var0, set0, var1, set1, var2, set2, var3, set3, var4, set4, var5, set5, var6, set6, var7, set7, var8, set8, var9, set9, var10, set10, var11, set11, var12, set12, var13, set13, var14, set14, var15, set15, var16, set16, var17, set17, var18, set18, var19, set19, wp_bnd, wpr, wpe, wp_chk, bndr, bnde, List.append_nil, List.nil_append, List.cons_append, cond_true, cond_false, decide_eq_true_eq, slc_s1, slc_s2, slc_s3, slc_t1, slc_t2, slc_t3, slc_l1, slc_l2, slc_l3, chk_i, sliceE, add_ii, sub_ii, mul_ii, fdiv_ii, mod_ii, pow_ii, eq_ii, ne_ii, lt_ii, le_ii, gt_ii, ge_ii, add_ss, add_tt, mul_si, eq_ss, ne_ss, eq_bb, neg_i, abs_i, int_i, int_b, len_s, len_t, len_k, max_ii, min_ii, tr_b, tr_i, tr_s, tr_n, ie_i, is_i, isnt_i, ie_s, is_s, isnt_s, ie_b, is_b, isnt_b, ie_t, is_t, isnt_t, ie_l, is_l, isnt_l, ie_k, is_k, isnt_k, ie_n, is_n, isnt_n, ie_e, in_ss, nin_ss, sub_si, sub_ti, kst, end_rt, end_nx])
  unfold c_back_order_1
  (try simp only [eq_self, decide_true, decide_false, Bool.not_true, Bool.not_false, true_and, and_true, wp_isi, isK, List.any_cons, List.any_nil, Bool.or_false, Bool.false_or, Bool.or_true, Bool.true_or, setS, retS, exprS, cstE, op1E, op2E, opnE, consA, nilA, valT, andT, orT, notT, iteE, andE, orE, notE, callE, methE, m0, m1, one, skipS, brkS, cntS, raiseS, subS, parS, var0, set0, var1, set1, var2, set2, var3, set3, var4, set4, var5, set5, var6, set6, var7, set7, var8, set8, var9, set9, var10, set10, var11, set11, var12, set12, var13, set13, var14, set14, var15, set15, var16, set16, var17, set17, var18, set18, var19, set19, wp_bnd, wpr, wpe, wp_chk, bndr, bnde, List.append_nil, List.nil_append, List.cons_append, cond_true, cond_false, decide_eq_true_eq, slc_s1, slc_s2, slc_s3, slc_t1, slc_t2, slc_t3, slc_l1, slc_l2, slc_l3, chk_i, sliceE, add_ii, sub_ii, mul_ii, fdiv_ii, mod_ii, pow_ii, eq_ii, ne_ii, lt_ii, le_ii, gt_ii, ge_ii, add_ss, add_tt, mul_si, eq_ss, ne_ss, eq_bb, neg_i, abs_i, int_i, int_b, len_s, len_t, len_k, max_ii, min_ii, tr_b, tr_i, tr_s, tr_n, ie_i, is_i, isnt_i, ie_s, is_s, isnt_s, ie_b, is_b, isnt_b, ie_t, is_t, isnt_t, ie_l, is_l, isnt_l, ie_k, is_k, isnt_k, ie_n, is_n, isnt_n, ie_e, in_ss, nin_ss, sub_si, sub_ti, kst, end_rt, end_nx])
  have e1 : (sgs (sg o.length)).map (onC fun c => 48 + (idxC c o).getD 0) = sgs (bk o) := sgs_map fun c _ => rfl
  have hl : o.length ≤ 5 := by rw [ho.len]; exact ho.hi
  refine wp_mapI (xs := sgs (sg o.length)) (onC fun c => 48 + (idxC c o).getD 0) ?_ (noExc_sgs _) (by rw [sgs, List.length_map, sg_len]; show _ ≤ 16777216; omega) (by rw [e1]; exact noExc_sgs _) (fun d hd S' _ => ?_) ?_
  · simp only [eq_self, decide_true, decide_false, Bool.not_true, Bool.not_false, true_and, and_true, wp_isi, isK, List.any_cons, List.any_nil, Bool.or_false, Bool.false_or, Bool.or_true, Bool.true_or, setS, retS, exprS, cstE, op1E, op2E, opnE, consA, nilA, valT, andT, orT, notT, iteE, andE, orE, notE, callE, methE, m0, m1, one, skipS, brkS, cntS, raiseS, subS, parS, var0, set0, var1, set1, var2, set2, var3, set3, var4, set4, var5, set5, var6, set6, var7, set7, var8, set8, var9, set9, var10, set10, var11, set11, var12, set12, var13, set13, var14, set14, var15, set15, var16, set16, var17, set17, var18, set18, var19, set19, wp_bnd, wpr, wpe, wp_chk, bndr, bnde, List.append_nil, List.nil_append, List.cons_append, cond_true, cond_false, decide_eq_true_eq, slc_s1, slc_s2, slc_s3, slc_t1, slc_t2, slc_t3, slc_l1, slc_l2, slc_l3, chk_i, sliceE, add_ii, sub_ii, mul_ii, fdiv_ii, mod_ii, pow_ii, eq_ii, ne_ii, lt_ii, le_ii, gt_ii, ge_ii, add_ss, add_tt, mul_si, eq_ss, ne_ss, eq_bb, neg_i, abs_i, int_i, int_b, len_s, len_t, len_k, max_ii, min_ii, tr_b, tr_i, tr_s, tr_n, ie_i, is_i, isnt_i, ie_s, is_s, isnt_s, ie_b, is_b, isnt_b, ie_t, is_t, isnt_t, ie_l, is_l, isnt_l, ie_k, is_k, isnt_k, ie_n, is_n, isnt_n, ie_e, in_ss, nin_ss, sub_si, sub_ti, kst, end_rt, end_nx, seqI, sg_cut hl]
    exact it_str
  · obtain ⟨c, hc, e⟩ := mem_sgs hd
    subst e
    have hc := sg_mem.mp hc
    rw [ho.len] at hc
    obtain ⟨k, hk, q⟩ := ho.at (y := c - 48) (by omega)
    rw [show 48 + (c - 48) = c by omega] at q
    have q2 := ho.idx q
    have e2 : indexD (.str o) (.str [c]) = ret (.int (k : Int)) := by
      unfold indexD
      dsimp only
      rw [q2]
    have hi := ho.hi
    simp only [eq_self, decide_true, decide_false, Bool.not_true, Bool.not_false, true_and, and_true, wp_isi, isK, List.any_cons, List.any_nil, Bool.or_false, Bool.false_or, Bool.or_true, Bool.true_or, setS, retS, exprS, cstE, op1E, op2E, opnE, consA, nilA, valT, andT, orT, notT, iteE, andE, orE, notE, callE, methE, m0, m1, one, skipS, brkS, cntS, raiseS, subS, parS, var0, set0, var1, set1, var2, set2, var3, set3, var4, set4, var5, set5, var6, set6, var7, set7, var8, set8, var9, set9, var10, set10, var11, set11, var12, set12, var13, set13, var14, set14, var15, set15, var16, set16, var17, set17, var18, set18, var19, set19, wp_bnd, wpr, wpe, wp_chk, bndr, bnde, List.append_nil, List.nil_append, List.cons_append, cond_true, cond_false, decide_eq_true_eq, slc_s1, slc_s2, slc_s3, slc_t1, slc_t2, slc_t3, slc_l1, slc_l2, slc_l3, chk_i, sliceE, add_ii, sub_ii, mul_ii, fdiv_ii, mod_ii, pow_ii, eq_ii, ne_ii, lt_ii, le_ii, gt_ii, ge_ii, add_ss, add_tt, mul_si, eq_ss, ne_ss, eq_bb, neg_i, abs_i, int_i, int_b, len_s, len_t, len_k, max_ii, min_ii, tr_b, tr_i, tr_s, tr_n, ie_i, is_i, isnt_i, ie_s, is_s, isnt_s, ie_b, is_b, isnt_b, ie_t, is_t, isnt_t, ie_l, is_l, isnt_l, ie_k, is_k, isnt_k, ie_n, is_n, isnt_n, ie_e, in_ss, nin_ss, sub_si, sub_ti, kst, end_rt, end_nx, forget, List.set, e2]
    have e3 : ([48, 49, 50, 51, 52] : List Nat)[k]? = some (48 + k) := by
      have := sg_get (w := 5) (k := k) (by omega)
      exact this
    rw [wp_atL e3]
    (try simp only [eq_self, decide_true, decide_false, Bool.not_true, Bool.not_false, true_and, and_true, wp_isi, isK, List.any_cons, List.any_nil, Bool.or_false, Bool.false_or, Bool.or_true, Bool.true_or, setS, retS, exprS, cstE, op1E, op2E, opnE, consA, nilA, valT, andT, orT, notT, iteE, andE, orE, notE, callE, methE, m0, m1, one, skipS, brkS, cntS, raiseS, subS, parS, var0, set0, var1, set1, var2, set2, var3, set3, var4, set4, var5, set5, var6, set6, var7, set7, var8, set8, var9, set9, var10, set10, var11, set11, var12, set12, var13, set13, var14, set14, var15, set15, var16, set16, var17, set17, var18, set18, var19, set19, wp_bnd, wpr, wpe, wp_chk, bndr, bnde, List.append_nil, List.nil_append, List.cons_append, cond_true, cond_false, decide_eq_true_eq, slc_s1, slc_s2, slc_s3, slc_t1, slc_t2, slc_t3, slc_l1, slc_l2, slc_l3, chk_i, sliceE, add_ii, sub_ii, mul_ii, fdiv_ii, mod_ii, pow_ii, eq_ii, ne_ii, lt_ii, le_ii, gt_ii, ge_ii, add_ss, add_tt, mul_si, eq_ss, ne_ss, eq_bb, neg_i, abs_i, int_i, int_b, len_s, len_t, len_k, max_ii, min_ii, tr_b, tr_i, tr_s, tr_n, ie_i, is_i, isnt_i, ie_s, is_s, isnt_s, ie_b, is_b, isnt_b, ie_t, is_t, isnt_t, ie_l, is_l, isnt_l, ie_k, is_k, isnt_k, ie_n, is_n, isnt_n, ie_e, in_ss, nin_ss, sub_si, sub_ti, kst, end_rt, end_nx])
    show D.str [48 + k] = D.str [48 + (idxC c o).getD 0]
    rw [q2]; rfl
  · (try simp only [eq_self, decide_true, decide_false, Bool.not_true, Bool.not_false, true_and, and_true, wp_isi, isK, List.any_cons, List.any_nil, Bool.or_false, Bool.false_or, Bool.or_true, Bool.true_or, setS, retS, exprS, cstE, op1E, op2E, opnE, consA, nilA, valT, andT, orT, notT, iteE, andE, orE, notE, callE, methE, m0, m1, one, skipS, brkS, cntS, raiseS, subS, parS, var0, set0, var1, set1, var2, set2, var3, set3, var4, set4, var5, set5, var6, set6, var7, set7, var8, set8, var9, set9, var10, set10, var11, set11, var12, set12, var13, set13, var14, set14, var15, set15, var16, set16, var17, set17, var18, set18, var19, set19, wp_bnd, wpr, wpe, wp_chk, bndr, bnde, List.append_nil, List.nil_append, List.cons_append, cond_true, cond_false, decide_eq_true_eq, slc_s1, slc_s2, slc_s3, slc_t1, slc_t2, slc_t3, slc_l1, slc_l2, slc_l3, chk_i, sliceE, add_ii, sub_ii, mul_ii, fdiv_ii, mod_ii, pow_ii, eq_ii, ne_ii, lt_ii, le_ii, gt_ii, ge_ii, add_ss, add_tt, mul_si, eq_ss, ne_ss, eq_bb, neg_i, abs_i, int_i, int_b, len_s, len_t, len_k, max_ii, min_ii, tr_b, tr_i, tr_s, tr_n, ie_i, is_i, isnt_i, ie_s, is_s, isnt_s, ie_b, is_b, isnt_b, ie_t, is_t, isnt_t, ie_l, is_l, isnt_l, ie_k, is_k, isnt_k, ie_n, is_n, isnt_n, ie_e, in_ss, nin_ss, sub_si, sub_ti, kst, end_rt, end_nx])
    rw [e1]
    exact wp_join0 at_new (by rw [bk_len]; show _ ≤ 16777216; omega) (hq _ .app)
theorem sp_back_no {n : Nat} {o : List Nat} {S : Store} {Q : D → Store → Prop} {E : Nat → List D → Store → Prop} (ho : isOrd o = false) (he : E 7 [.str o] S) : Wp (callF LT (n + 2) i_back_order [.str o]) S Q E := by
  rw [e_back_order]
  unfold c_back_order
  refine wp_def (wp_seq ?_)
  unfold c_back_order_0
  (try simp only [eq_self, decide_true, decide_false, Bool.not_true, Bool.not_false, true_and, and_true, wp_isi, isK, List.any_cons, List.any_nil, Bool.or_false, Bool.false_or, Bool.or_true, Bool.true_or, setS, retS, exprS, cstE, op1E, op2E, opnE, consA, nilA, valT, andT, orT, notT, iteE, andE, orE, notE, callE, methE, m0, m1, one, skipS, brkS, cntS, raiseS, subS, parS, var0, set0, var1, set1, var2, set2, var3, set3, var4, set4, var5, set5, var6, set6, var7, set7, var8, set8, var9, set9, var10, set10, var11, set11, var12, set12, var13, set13, var14, set14, var15, set15, var16, set16, var17, set17, var18, set18, var19, set19, wp_bnd, wpr, wpe, wp_chk, bndr, bnde, List.append_nil, List.nil_append, List.cons_append, cond_true, cond_false, decide_eq_true_eq, slc_s1, slc_s2, slc_s3, slc_t1, slc_t2, slc_t3, slc_l1, slc_l2, slc_l3, chk_i, sliceE, add_ii, sub_ii, mul_ii, fdiv_ii, mod_ii, pow_ii, eq_ii, ne_ii, lt_ii, le_ii, gt_ii, ge_ii, add_ss, add_tt, mul_si, eq_ss, ne_ss, eq_bb, neg_i, abs_i, int_i, int_b, len_s, len_t, len_k, max_ii, min_ii, tr_b, tr_i, tr_s, tr_n, ie_i, is_i, isnt_i, ie_s, is_s, isnt_s, ie_b, is_b, isnt_b, ie_t, is_t, isnt_t, ie_l, is_l, isnt_l, ie_k, is_k, isnt_k, ie_n, is_n, isnt_n, ie_e, in_ss, nin_ss, sub_si, sub_ti, kst, end_rt, end_nx])
  exact sp_check_order (fun z => by rw [ho] at z; cases z) fun _ => he

/-! ### the law: asking -/
theorem sp_renamed_by {n w : Nat} {o t : List Nat} {S : Store} {Q : D → Store → Prop} {E : Nat → List D → Store → Prop} (ho : Ord w o)
    (hq : okT w (most w) t = true → ∀ S', Pre S S' → Q (.tup [(D.str [116, 111, 108, 100]), .str (rn o t)]) S') (he : okT w (most w) t = false → ∀ S', Pre S S' → Q (.tup [(D.str [114, 101, 102, 117, 115, 101, 100]), .tup [(D.str [66, 97, 100, 82, 111, 119]), .str t]]) S') : Wp (callF LT (n + 5) i_renamed_by [.str o, .str t]) S Q E := by
  rw [e_renamed_by]
  unfold c_renamed_by
  refine wp_def (wp_seq ?_)
  unfold c_renamed_by_0
  refine wp_try ?_
  unfold c_renamed_by_1
  (try simp only [eq_self, decide_true, decide_false, Bool.not_true, Bool.not_false, true_and, and_true, wp_isi, isK, List.any_cons, List.any_nil, Bool.or_false, Bool.false_or, Bool.or_true, Bool.true_or, setS, retS, exprS, cstE, op1E, op2E, opnE, consA, nilA, valT, andT, orT, notT, iteE, andE, orE, notE, callE, methE, m0, m1, one, skipS, brkS, cntS, raiseS, subS, parS, var0, set0, var1, set1, var2, set2, var3, set3, var4, set4, var5, set5, var6, set6, var7, set7, var8, set8, var9, set9, var10, set10, var11, set11, var12, set12, var13, set13, var14, set14, var15, set15, var16, set16, var17, set17, var18, set18, var19, set19, wp_bnd, wpr, wpe, wp_chk, bndr, bnde, List.append_nil, List.nil_append, List.cons_append, cond_true, cond_false, decide_eq_true_eq, slc_s1, slc_s2, slc_s3, slc_t1, slc_t2, slc_t3, slc_l1, slc_l2, slc_l3, chk_i, sliceE, add_ii, sub_ii, mul_ii, fdiv_ii, mod_ii, pow_ii, eq_ii, ne_ii, lt_ii, le_ii, gt_ii, ge_ii, add_ss, add_tt, mul_si, eq_ss, ne_ss, eq_bb, neg_i, abs_i, int_i, int_b, len_s, len_t, len_k, max_ii, min_ii, tr_b, tr_i, tr_s, tr_n, ie_i, is_i, isnt_i, ie_s, is_s, isnt_s, ie_b, is_b, isnt_b, ie_t, is_t, isnt_t, ie_l, is_l, isnt_l, ie_k, is_k, isnt_k, ie_n, is_n, isnt_n, ie_e, in_ss, nin_ss, sub_si, sub_ti, kst, end_rt, end_nx])
  refine sp_renamed ho (fun z S' p => ?_) fun z => ?_
  · (try simp only [eq_self, decide_true, decide_false, Bool.not_true, Bool.not_false, true_and, and_true, wp_isi, isK, List.any_cons, List.any_nil, Bool.or_false, Bool.false_or, Bool.or_true, Bool.true_or, setS, retS, exprS, cstE, op1E, op2E, opnE, consA, nilA, valT, andT, orT, notT, iteE, andE, orE, notE, callE, methE, m0, m1, one, skipS, brkS, cntS, raiseS, subS, parS, var0, set0, var1, set1, var2, set2, var3, set3, var4, set4, var5, set5, var6, set6, var7, set7, var8, set8, var9, set9, var10, set10, var11, set11, var12, set12, var13, set13, var14, set14, var15, set15, var16, set16, var17, set17, var18, set18, var19, set19, wp_bnd, wpr, wpe, wp_chk, bndr, bnde, List.append_nil, List.nil_append, List.cons_append, cond_true, cond_false, decide_eq_true_eq, slc_s1, slc_s2, slc_s3, slc_t1, slc_t2, slc_t3, slc_l1, slc_l2, slc_l3, chk_i, sliceE, add_ii, sub_ii, mul_ii, fdiv_ii, mod_ii, pow_ii, eq_ii, ne_ii, lt_ii, le_ii, gt_ii, ge_ii, add_ss, add_tt, mul_si, eq_ss, ne_ss, eq_bb, neg_i, abs_i, int_i, int_b, len_s, len_t, len_k, max_ii, min_ii, tr_b, tr_i, tr_s, tr_n, ie_i, is_i, isnt_i, ie_s, is_s, isnt_s, ie_b, is_b, isnt_b, ie_t, is_t, isnt_t, ie_l, is_l, isnt_l, ie_k, is_k, isnt_k, ie_n, is_n, isnt_n, ie_e, in_ss, nin_ss, sub_si, sub_ti, kst, end_rt, end_nx])
    unfold c_renamed_by_3
    simp only [eq_self, decide_true, decide_false, Bool.not_true, Bool.not_false, true_and, and_true, wp_isi, isK, List.any_cons, List.any_nil, Bool.or_false, Bool.false_or, Bool.or_true, Bool.true_or, setS, retS, exprS, cstE, op1E, op2E, opnE, consA, nilA, valT, andT, orT, notT, iteE, andE, orE, notE, callE, methE, m0, m1, one, skipS, brkS, cntS, raiseS, subS, parS, var0, set0, var1, set1, var2, set2, var3, set3, var4, set4, var5, set5, var6, set6, var7, set7, var8, set8, var9, set9, var10, set10, var11, set11, var12, set12, var13, set13, var14, set14, var15, set15, var16, set16, var17, set17, var18, set18, var19, set19, wp_bnd, wpr, wpe, wp_chk, bndr, bnde, List.append_nil, List.nil_append, List.cons_append, cond_true, cond_false, decide_eq_true_eq, slc_s1, slc_s2, slc_s3, slc_t1, slc_t2, slc_t3, slc_l1, slc_l2, slc_l3, chk_i, sliceE, add_ii, sub_ii, mul_ii, fdiv_ii, mod_ii, pow_ii, eq_ii, ne_ii, lt_ii, le_ii, gt_ii, ge_ii, add_ss, add_tt, mul_si, eq_ss, ne_ss, eq_bb, neg_i, abs_i, int_i, int_b, len_s, len_t, len_k, max_ii, min_ii, tr_b, tr_i, tr_s, tr_n, ie_i, is_i, isnt_i, ie_s, is_s, isnt_s, ie_b, is_b, isnt_b, ie_t, is_t, isnt_t, ie_l, is_l, isnt_l, ie_k, is_k, isnt_k, ie_n, is_n, isnt_n, ie_e, in_ss, nin_ss, sub_si, sub_ti, kst, end_rt, end_nx, wp_mkTup]
    exact ⟨rfl, by simp [SZ], hq z _ p⟩
  · refine ⟨by simp [subC], ?_⟩
    unfold c_renamed_by_2
    simp only [eq_self, decide_true, decide_false, Bool.not_true, Bool.not_false, true_and, and_true, wp_isi, isK, List.any_cons, List.any_nil, Bool.or_false, Bool.false_or, Bool.or_true, Bool.true_or, setS, retS, exprS, cstE, op1E, op2E, opnE, consA, nilA, valT, andT, orT, notT, iteE, andE, orE, notE, callE, methE, m0, m1, one, skipS, brkS, cntS, raiseS, subS, parS, var0, set0, var1, set1, var2, set2, var3, set3, var4, set4, var5, set5, var6, set6, var7, set7, var8, set8, var9, set9, var10, set10, var11, set11, var12, set12, var13, set13, var14, set14, var15, set15, var16, set16, var17, set17, var18, set18, var19, set19, wp_bnd, wpr, wpe, wp_chk, bndr, bnde, List.append_nil, List.nil_append, List.cons_append, cond_true, cond_false, decide_eq_true_eq, slc_s1, slc_s2, slc_s3, slc_t1, slc_t2, slc_t3, slc_l1, slc_l2, slc_l3, chk_i, sliceE, add_ii, sub_ii, mul_ii, fdiv_ii, mod_ii, pow_ii, eq_ii, ne_ii, lt_ii, le_ii, gt_ii, ge_ii, add_ss, add_tt, mul_si, eq_ss, ne_ss, eq_bb, neg_i, abs_i, int_i, int_b, len_s, len_t, len_k, max_ii, min_ii, tr_b, tr_i, tr_s, tr_n, ie_i, is_i, isnt_i, ie_s, is_s, isnt_s, ie_b, is_b, isnt_b, ie_t, is_t, isnt_t, ie_l, is_l, isnt_l, ie_k, is_k, isnt_k, ie_n, is_n, isnt_n, ie_e, in_ss, nin_ss, sub_si, sub_ti, kst, end_rt, end_nx, forget, List.set]
    refine sp_ref_7 rfl fun S' p => ?_
    simp only [eq_self, decide_true, decide_false, Bool.not_true, Bool.not_false, true_and, and_true, wp_isi, isK, List.any_cons, List.any_nil, Bool.or_false, Bool.false_or, Bool.or_true, Bool.true_or, setS, retS, exprS, cstE, op1E, op2E, opnE, consA, nilA, valT, andT, orT, notT, iteE, andE, orE, notE, callE, methE, m0, m1, one, skipS, brkS, cntS, raiseS, subS, parS, var0, set0, var1, set1, var2, set2, var3, set3, var4, set4, var5, set5, var6, set6, var7, set7, var8, set8, var9, set9, var10, set10, var11, set11, var12, set12, var13, set13, var14, set14, var15, set15, var16, set16, var17, set17, var18, set18, var19, set19, wp_bnd, wpr, wpe, wp_chk, bndr, bnde, List.append_nil, List.nil_append, List.cons_append, cond_true, cond_false, decide_eq_true_eq, slc_s1, slc_s2, slc_s3, slc_t1, slc_t2, slc_t3, slc_l1, slc_l2, slc_l3, chk_i, sliceE, add_ii, sub_ii, mul_ii, fdiv_ii, mod_ii, pow_ii, eq_ii, ne_ii, lt_ii, le_ii, gt_ii, ge_ii, add_ss, add_tt, mul_si, eq_ss, ne_ss, eq_bb, neg_i, abs_i, int_i, int_b, len_s, len_t, len_k, max_ii, min_ii, tr_b, tr_i, tr_s, tr_n, ie_i, is_i, isnt_i, ie_s, is_s, isnt_s, ie_b, is_b, isnt_b, ie_t, is_t, isnt_t, ie_l, is_l, isnt_l, ie_k, is_k, isnt_k, ie_n, is_n, isnt_n, ie_e, in_ss, nin_ss, sub_si, sub_ti, kst, end_rt, end_nx, wp_mkTup]
    exact ⟨rfl, by simp [SZ], he z _ p⟩
theorem sp_renamed_by_no {n : Nat} {o t : List Nat} {S : Store} {Q : D → Store → Prop} {E : Nat → List D → Store → Prop} (ho : isOrd o = false)
    (he : ∀ S', Pre S S' → Q (.tup [(D.str [114, 101, 102, 117, 115, 101, 100]), .tup [(D.str [66, 97, 100, 82, 111, 119]), .str o]]) S') : Wp (callF LT (n + 5) i_renamed_by [.str o, .str t]) S Q E := by
  rw [e_renamed_by]
  unfold c_renamed_by
  refine wp_def (wp_seq ?_)
  unfold c_renamed_by_0
  refine wp_try ?_
  unfold c_renamed_by_1
  (try simp only [eq_self, decide_true, decide_false, Bool.not_true, Bool.not_false, true_and, and_true, wp_isi, isK, List.any_cons, List.any_nil, Bool.or_false, Bool.false_or, Bool.or_true, Bool.true_or, setS, retS, exprS, cstE, op1E, op2E, opnE, consA, nilA, valT, andT, orT, notT, iteE, andE, orE, notE, callE, methE, m0, m1, one, skipS, brkS, cntS, raiseS, subS, parS, var0, set0, var1, set1, var2, set2, var3, set3, var4, set4, var5, set5, var6, set6, var7, set7, var8, set8, var9, set9, var10, set10, var11, set11, var12, set12, var13, set13, var14, set14, var15, set15, var16, set16, var17, set17, var18, set18, var19, set19, wp_bnd, wpr, wpe, wp_chk, bndr, bnde, List.append_nil, List.nil_append, List.cons_append, cond_true, cond_false, decide_eq_true_eq, slc_s1, slc_s2, slc_s3, slc_t1, slc_t2, slc_t3, slc_l1, slc_l2, slc_l3, chk_i, sliceE, add_ii, sub_ii, mul_ii, fdiv_ii, mod_ii, pow_ii, eq_ii, ne_ii, lt_ii, le_ii, gt_ii, ge_ii, add_ss, add_tt, mul_si, eq_ss, ne_ss, eq_bb, neg_i, abs_i, int_i, int_b, len_s, len_t, len_k, max_ii, min_ii, tr_b, tr_i, tr_s, tr_n, ie_i, is_i, isnt_i, ie_s, is_s, isnt_s, ie_b, is_b, isnt_b, ie_t, is_t, isnt_t, ie_l, is_l, isnt_l, ie_k, is_k, isnt_k, ie_n, is_n, isnt_n, ie_e, in_ss, nin_ss, sub_si, sub_ti, kst, end_rt, end_nx])
  refine sp_renamed_no ho ?_
  refine ⟨by simp [subC], ?_⟩
  unfold c_renamed_by_2
  simp only [eq_self, decide_true, decide_false, Bool.not_true, Bool.not_false, true_and, and_true, wp_isi, isK, List.any_cons, List.any_nil, Bool.or_false, Bool.false_or, Bool.or_true, Bool.true_or, setS, retS, exprS, cstE, op1E, op2E, opnE, consA, nilA, valT, andT, orT, notT, iteE, andE, orE, notE, callE, methE, m0, m1, one, skipS, brkS, cntS, raiseS, subS, parS, var0, set0, var1, set1, var2, set2, var3, set3, var4, set4, var5, set5, var6, set6, var7, set7, var8, set8, var9, set9, var10, set10, var11, set11, var12, set12, var13, set13, var14, set14, var15, set15, var16, set16, var17, set17, var18, set18, var19, set19, wp_bnd, wpr, wpe, wp_chk, bndr, bnde, List.append_nil, List.nil_append, List.cons_append, cond_true, cond_false, decide_eq_true_eq, slc_s1, slc_s2, slc_s3, slc_t1, slc_t2, slc_t3, slc_l1, slc_l2, slc_l3, chk_i, sliceE, add_ii, sub_ii, mul_ii, fdiv_ii, mod_ii, pow_ii, eq_ii, ne_ii, lt_ii, le_ii, gt_ii, ge_ii, add_ss, add_tt, mul_si, eq_ss, ne_ss, eq_bb, neg_i, abs_i, int_i, int_b, len_s, len_t, len_k, max_ii, min_ii, tr_b, tr_i, tr_s, tr_n, ie_i, is_i, isnt_i, ie_s, is_s, isnt_s, ie_b, is_b, isnt_b, ie_t, is_t, isnt_t, ie_l, is_l, isnt_l, ie_k, is_k, isnt_k, ie_n, is_n, isnt_n, ie_e, in_ss, nin_ss, sub_si, sub_ti, kst, end_rt, end_nx, forget, List.set]
  refine sp_ref_7 rfl fun S' p => ?_
  simp only [eq_self, decide_true, decide_false, Bool.not_true, Bool.not_false, true_and, and_true, wp_isi, isK, List.any_cons, List.any_nil, Bool.or_false, Bool.false_or, Bool.or_true, Bool.true_or, setS, retS, exprS, cstE, op1E, op2E, opnE, consA, nilA, valT, andT, orT, notT, iteE, andE, orE, notE, callE, methE, m0, m1, one, skipS, brkS, cntS, raiseS, subS, parS, var0, set0, var1, set1, var2, set2, var3, set3, var4, set4, var5, set5, var6, set6, var7, set7, var8, set8, var9, set9, var10, set10, var11, set11, var12, set12, var13, set13, var14, set14, var15, set15, var16, set16, var17, set17, var18, set18, var19, set19, wp_bnd, wpr, wpe, wp_chk, bndr, bnde, List.append_nil, List.nil_append, List.cons_append, cond_true, cond_false, decide_eq_true_eq, slc_s1, slc_s2, slc_s3, slc_t1, slc_t2, slc_t3, slc_l1, slc_l2, slc_l3, chk_i, sliceE, add_ii, sub_ii, mul_ii, fdiv_ii, mod_ii, pow_ii, eq_ii, ne_ii, lt_ii, le_ii, gt_ii, ge_ii, add_ss, add_tt, mul_si, eq_ss, ne_ss, eq_bb, neg_i, abs_i, int_i, int_b, len_s, len_t, len_k, max_ii, min_ii, tr_b, tr_i, tr_s, tr_n, ie_i, is_i, isnt_i, ie_s, is_s, isnt_s, ie_b, is_b, isnt_b, ie_t, is_t, isnt_t, ie_l, is_l, isnt_l, ie_k, is_k, isnt_k, ie_n, is_n, isnt_n, ie_e, in_ss, nin_ss, sub_si, sub_ti, kst, end_rt, end_nx, wp_mkTup]
  exact ⟨rfl, by simp [SZ], he _ p⟩
theorem sp_back_of {n w : Nat} {o : List Nat} {S : Store} {Q : D → Store → Prop} {E : Nat → List D → Store → Prop} (ho : Ord w o)
    (hq : ∀ S', Pre S S' → Q (.tup [(D.str [116, 111, 108, 100]), .str (bk o)]) S') : Wp (callF LT (n + 5) i_back_of [.str o]) S Q E := by
  rw [e_back_of]
  unfold c_back_of
  refine wp_def (wp_seq ?_)
  unfold c_back_of_0
  refine wp_try ?_
  unfold c_back_of_1
  (try simp only [eq_self, decide_true, decide_false, Bool.not_true, Bool.not_false, true_and, and_true, wp_isi, isK, List.any_cons, List.any_nil, Bool.or_false, Bool.false_or, Bool.or_true, Bool.true_or, setS, retS, exprS, cstE, op1E, op2E, opnE, consA, nilA, valT, andT, orT, notT, iteE, andE, orE, notE, callE, methE, m0, m1, one, skipS, brkS, cntS, raiseS, subS, parS, var0, set0, var1, set1, var2, set2, var3, set3, var4, set4, var5, set5, var6, set6, var7, set7, var8, set8, var9, set9, var10, set10, var11, set11, var12, set12, var13, set13, var14, set14, var15, set15, var16, set16, var17, set17, var18, set18, var19, set19, wp_bnd, wpr, wpe, wp_chk, bndr, bnde, List.append_nil, List.nil_append, List.cons_append, cond_true, cond_false, decide_eq_true_eq, slc_s1, slc_s2, slc_s3, slc_t1, slc_t2, slc_t3, slc_l1, slc_l2, slc_l3, chk_i, sliceE, add_ii, sub_ii, mul_ii, fdiv_ii, mod_ii, pow_ii, eq_ii, ne_ii, lt_ii, le_ii, gt_ii, ge_ii, add_ss, add_tt, mul_si, eq_ss, ne_ss, eq_bb, neg_i, abs_i, int_i, int_b, len_s, len_t, len_k, max_ii, min_ii, tr_b, tr_i, tr_s, tr_n, ie_i, is_i, isnt_i, ie_s, is_s, isnt_s, ie_b, is_b, isnt_b, ie_t, is_t, isnt_t, ie_l, is_l, isnt_l, ie_k, is_k, isnt_k, ie_n, is_n, isnt_n, ie_e, in_ss, nin_ss, sub_si, sub_ti, kst, end_rt, end_nx])
  refine sp_back_order ho fun S' p => ?_
  (try simp only [eq_self, decide_true, decide_false, Bool.not_true, Bool.not_false, true_and, and_true, wp_isi, isK, List.any_cons, List.any_nil, Bool.or_false, Bool.false_or, Bool.or_true, Bool.true_or, setS, retS, exprS, cstE, op1E, op2E, opnE, consA, nilA, valT, andT, orT, notT, iteE, andE, orE, notE, callE, methE, m0, m1, one, skipS, brkS, cntS, raiseS, subS, parS, var0, set0, var1, set1, var2, set2, var3, set3, var4, set4, var5, set5, var6, set6, var7, set7, var8, set8, var9, set9, var10, set10, var11, set11, var12, set12, var13, set13, var14, set14, var15, set15, var16, set16, var17, set17, var18, set18, var19, set19, wp_bnd, wpr, wpe, wp_chk, bndr, bnde, List.append_nil, List.nil_append, List.cons_append, cond_true, cond_false, decide_eq_true_eq, slc_s1, slc_s2, slc_s3, slc_t1, slc_t2, slc_t3, slc_l1, slc_l2, slc_l3, chk_i, sliceE, add_ii, sub_ii, mul_ii, fdiv_ii, mod_ii, pow_ii, eq_ii, ne_ii, lt_ii, le_ii, gt_ii, ge_ii, add_ss, add_tt, mul_si, eq_ss, ne_ss, eq_bb, neg_i, abs_i, int_i, int_b, len_s, len_t, len_k, max_ii, min_ii, tr_b, tr_i, tr_s, tr_n, ie_i, is_i, isnt_i, ie_s, is_s, isnt_s, ie_b, is_b, isnt_b, ie_t, is_t, isnt_t, ie_l, is_l, isnt_l, ie_k, is_k, isnt_k, ie_n, is_n, isnt_n, ie_e, in_ss, nin_ss, sub_si, sub_ti, kst, end_rt, end_nx])
  unfold c_back_of_3
  simp only [eq_self, decide_true, decide_false, Bool.not_true, Bool.not_false, true_and, and_true, wp_isi, isK, List.any_cons, List.any_nil, Bool.or_false, Bool.false_or, Bool.or_true, Bool.true_or, setS, retS, exprS, cstE, op1E, op2E, opnE, consA, nilA, valT, andT, orT, notT, iteE, andE, orE, notE, callE, methE, m0, m1, one, skipS, brkS, cntS, raiseS, subS, parS, var0, set0, var1, set1, var2, set2, var3, set3, var4, set4, var5, set5, var6, set6, var7, set7, var8, set8, var9, set9, var10, set10, var11, set11, var12, set12, var13, set13, var14, set14, var15, set15, var16, set16, var17, set17, var18, set18, var19, set19, wp_bnd, wpr, wpe, wp_chk, bndr, bnde, List.append_nil, List.nil_append, List.cons_append, cond_true, cond_false, decide_eq_true_eq, slc_s1, slc_s2, slc_s3, slc_t1, slc_t2, slc_t3, slc_l1, slc_l2, slc_l3, chk_i, sliceE, add_ii, sub_ii, mul_ii, fdiv_ii, mod_ii, pow_ii, eq_ii, ne_ii, lt_ii, le_ii, gt_ii, ge_ii, add_ss, add_tt, mul_si, eq_ss, ne_ss, eq_bb, neg_i, abs_i, int_i, int_b, len_s, len_t, len_k, max_ii, min_ii, tr_b, tr_i, tr_s, tr_n, ie_i, is_i, isnt_i, ie_s, is_s, isnt_s, ie_b, is_b, isnt_b, ie_t, is_t, isnt_t, ie_l, is_l, isnt_l, ie_k, is_k, isnt_k, ie_n, is_n, isnt_n, ie_e, in_ss, nin_ss, sub_si, sub_ti, kst, end_rt, end_nx, wp_mkTup]
  exact ⟨rfl, by simp [SZ], hq _ p⟩
theorem sp_back_of_no {n : Nat} {o : List Nat} {S : Store} {Q : D → Store → Prop} {E : Nat → List D → Store → Prop} (ho : isOrd o = false)
    (he : ∀ S', Pre S S' → Q (.tup [(D.str [114, 101, 102, 117, 115, 101, 100]), .tup [(D.str [66, 97, 100, 82, 111, 119]), .str o]]) S') : Wp (callF LT (n + 5) i_back_of [.str o]) S Q E := by
  rw [e_back_of]
  unfold c_back_of
  refine wp_def (wp_seq ?_)
  unfold c_back_of_0
  refine wp_try ?_
  unfold c_back_of_1
  (try simp only [eq_self, decide_true, decide_false, Bool.not_true, Bool.not_false, true_and, and_true, wp_isi, isK, List.any_cons, List.any_nil, Bool.or_false, Bool.false_or, Bool.or_true, Bool.true_or, setS, retS, exprS, cstE, op1E, op2E, opnE, consA, nilA, valT, andT, orT, notT, iteE, andE, orE, notE, callE, methE, m0, m1, one, skipS, brkS, cntS, raiseS, subS, parS, var0, set0, var1, set1, var2, set2, var3, set3, var4, set4, var5, set5, var6, set6, var7, set7, var8, set8, var9, set9, var10, set10, var11, set11, var12, set12, var13, set13, var14, set14, var15, set15, var16, set16, var17, set17, var18, set18, var19, set19, wp_bnd, wpr, wpe, wp_chk, bndr, bnde, List.append_nil, List.nil_append, List.cons_append, cond_true, cond_false, decide_eq_true_eq, slc_s1, slc_s2, slc_s3, slc_t1, slc_t2, slc_t3, slc_l1, slc_l2, slc_l3, chk_i, sliceE, add_ii, sub_ii, mul_ii, fdiv_ii, mod_ii, pow_ii, eq_ii, ne_ii, lt_ii, le_ii, gt_ii, ge_ii, add_ss, add_tt, mul_si, eq_ss, ne_ss, eq_bb, neg_i, abs_i, int_i, int_b, len_s, len_t, len_k, max_ii, min_ii, tr_b, tr_i, tr_s, tr_n, ie_i, is_i, isnt_i, ie_s, is_s, isnt_s, ie_b, is_b, isnt_b, ie_t, is_t, isnt_t, ie_l, is_l, isnt_l, ie_k, is_k, isnt_k, ie_n, is_n, isnt_n, ie_e, in_ss, nin_ss, sub_si, sub_ti, kst, end_rt, end_nx])
  refine sp_back_no ho ?_
  refine ⟨by simp [subC], ?_⟩
  unfold c_back_of_2
  simp only [eq_self, decide_true, decide_false, Bool.not_true, Bool.not_false, true_and, and_true, wp_isi, isK, List.any_cons, List.any_nil, Bool.or_false, Bool.false_or, Bool.or_true, Bool.true_or, setS, retS, exprS, cstE, op1E, op2E, opnE, consA, nilA, valT, andT, orT, notT, iteE, andE, orE, notE, callE, methE, m0, m1, one, skipS, brkS, cntS, raiseS, subS, parS, var0, set0, var1, set1, var2, set2, var3, set3, var4, set4, var5, set5, var6, set6, var7, set7, var8, set8, var9, set9, var10, set10, var11, set11, var12, set12, var13, set13, var14, set14, var15, set15, var16, set16, var17, set17, var18, set18, var19, set19, wp_bnd, wpr, wpe, wp_chk, bndr, bnde, List.append_nil, List.nil_append, List.cons_append, cond_true, cond_false, decide_eq_true_eq, slc_s1, slc_s2, slc_s3, slc_t1, slc_t2, slc_t3, slc_l1, slc_l2, slc_l3, chk_i, sliceE, add_ii, sub_ii, mul_ii, fdiv_ii, mod_ii, pow_ii, eq_ii, ne_ii, lt_ii, le_ii, gt_ii, ge_ii, add_ss, add_tt, mul_si, eq_ss, ne_ss, eq_bb, neg_i, abs_i, int_i, int_b, len_s, len_t, len_k, max_ii, min_ii, tr_b, tr_i, tr_s, tr_n, ie_i, is_i, isnt_i, ie_s, is_s, isnt_s, ie_b, is_b, isnt_b, ie_t, is_t, isnt_t, ie_l, is_l, isnt_l, ie_k, is_k, isnt_k, ie_n, is_n, isnt_n, ie_e, in_ss, nin_ss, sub_si, sub_ti, kst, end_rt, end_nx, forget, List.set]
  refine sp_ref_7 rfl fun S' p => ?_
  simp only [eq_self, decide_true, decide_false, Bool.not_true, Bool.not_false, true_and, and_true, wp_isi, isK, List.any_cons, List.any_nil, Bool.or_false, Bool.false_or, Bool.or_true, Bool.true_or, setS, retS, exprS, cstE, op1E, op2E, opnE, consA, nilA, valT, andT, orT, notT, iteE, andE, orE, notE, callE, methE, m0, m1, one, skipS, brkS, cntS, raiseS, subS, parS, var0, set0, var1, set1, var2, set2, var3, set3, var4, set4, var5, set5, var6, set6, var7, set7, var8, set8, var9, set9, var10, set10, var11, set11, var12, set12, var13, set13, var14, set14, var15, set15, var16, set16, var17, set17, var18, set18, var19, set19, wp_bnd, wpr, wpe, wp_chk, bndr, bnde, List.append_nil, List.nil_append, List.cons_append, cond_true, cond_false, decide_eq_true_eq, slc_s1, slc_s2, slc_s3, slc_t1, slc_t2, slc_t3, slc_l1, slc_l2, slc_l3, chk_i, sliceE, add_ii, sub_ii, mul_ii, fdiv_ii, mod_ii, pow_ii, eq_ii, ne_ii, lt_ii, le_ii, gt_ii, ge_ii, add_ss, add_tt, mul_si, eq_ss, ne_ss, eq_bb, neg_i, abs_i, int_i, int_b, len_s, len_t, len_k, max_ii, min_ii, tr_b, tr_i, tr_s, tr_n, ie_i, is_i, isnt_i, ie_s, is_s, isnt_s, ie_b, is_b, isnt_b, ie_t, is_t, isnt_t, ie_l, is_l, isnt_l, ie_k, is_k, isnt_k, ie_n, is_n, isnt_n, ie_e, in_ss, nin_ss, sub_si, sub_ti, kst, end_rt, end_nx, wp_mkTup]
  exact ⟨rfl, by simp [SZ], he _ p⟩
theorem sp_is_order {n : Nat} {t : List Nat} {S : Store} {Q : D → Store → Prop} {E : Nat → List D → Store → Prop} (hq : Q (.bl (isOrd t)) S) : Wp (callF LT (n + 1) i_is_order [.str t]) S Q E := by
  rw [e_is_order]
  unfold c_is_order
  refine wp_def (wp_seq ?_)
  unfold c_is_order_0
  refine wp_ite ?_
  simp only [eq_self, decide_true, decide_false, Bool.not_true, Bool.not_false, true_and, and_true, wp_isi, isK, List.any_cons, List.any_nil, Bool.or_false, Bool.false_or, Bool.or_true, Bool.true_or, setS, retS, exprS, cstE, op1E, op2E, opnE, consA, nilA, valT, andT, orT, notT, iteE, andE, orE, notE, callE, methE, m0, m1, one, skipS, brkS, cntS, raiseS, subS, parS, var0, set0, var1, set1, var2, set2, var3, set3, var4, set4, var5, set5, var6, set6, var7, set7, var8, set8, var9, set9, var10, set10, var11, set11, var12, set12, var13, set13, var14, set14, var15, set15, var16, set16, var17, set17, var18, set18, var19, set19, wp_bnd, wpr, wpe, wp_chk, bndr, bnde, List.append_nil, List.nil_append, List.cons_append, cond_true, cond_false, decide_eq_true_eq, slc_s1, slc_s2, slc_s3, slc_t1, slc_t2, slc_t3, slc_l1, slc_l2, slc_l3, chk_i, sliceE, add_ii, sub_ii, mul_ii, fdiv_ii, mod_ii, pow_ii, eq_ii, ne_ii, lt_ii, le_ii, gt_ii, ge_ii, add_ss, add_tt, mul_si, eq_ss, ne_ss, eq_bb, neg_i, abs_i, int_i, int_b, len_s, len_t, len_k, max_ii, min_ii, tr_b, tr_i, tr_s, tr_n, ie_i, is_i, isnt_i, ie_s, is_s, isnt_s, ie_b, is_b, isnt_b, ie_t, is_t, isnt_t, ie_l, is_l, isnt_l, ie_k, is_k, isnt_k, ie_n, is_n, isnt_n, ie_e, in_ss, nin_ss, sub_si, sub_ti, kst, end_rt, end_nx, wp_if]
  have no : ∀ {Q' : Fl → Store → Prop} {x}, (Q (.bl false) S → Q' (.rt (.bl false)) S) → isOrd t = false → Wp (c_is_order_1 (callF LT n) [some (.str t), x]) S Q' E := by
    intro Q' x k z
    unfold c_is_order_1
    simp only [eq_self, decide_true, decide_false, Bool.not_true, Bool.not_false, true_and, and_true, wp_isi, isK, List.any_cons, List.any_nil, Bool.or_false, Bool.false_or, Bool.or_true, Bool.true_or, setS, retS, exprS, cstE, op1E, op2E, opnE, consA, nilA, valT, andT, orT, notT, iteE, andE, orE, notE, callE, methE, m0, m1, one, skipS, brkS, cntS, raiseS, subS, parS, var0, set0, var1, set1, var2, set2, var3, set3, var4, set4, var5, set5, var6, set6, var7, set7, var8, set8, var9, set9, var10, set10, var11, set11, var12, set12, var13, set13, var14, set14, var15, set15, var16, set16, var17, set17, var18, set18, var19, set19, wp_bnd, wpr, wpe, wp_chk, bndr, bnde, List.append_nil, List.nil_append, List.cons_append, cond_true, cond_false, decide_eq_true_eq, slc_s1, slc_s2, slc_s3, slc_t1, slc_t2, slc_t3, slc_l1, slc_l2, slc_l3, chk_i, sliceE, add_ii, sub_ii, mul_ii, fdiv_ii, mod_ii, pow_ii, eq_ii, ne_ii, lt_ii, le_ii, gt_ii, ge_ii, add_ss, add_tt, mul_si, eq_ss, ne_ss, eq_bb, neg_i, abs_i, int_i, int_b, len_s, len_t, len_k, max_ii, min_ii, tr_b, tr_i, tr_s, tr_n, ie_i, is_i, isnt_i, ie_s, is_s, isnt_s, ie_b, is_b, isnt_b, ie_t, is_t, isnt_t, ie_l, is_l, isnt_l, ie_k, is_k, isnt_k, ie_n, is_n, isnt_n, ie_e, in_ss, nin_ss, sub_si, sub_ti, kst, end_rt, end_nx]
    rw [z] at hq
    exact k hq
  by_cases q1 : (t.length : Int) < 1
  · simp only [q1, eq_self, decide_true, decide_false, Bool.not_true, Bool.not_false, true_and, and_true, wp_isi, isK, List.any_cons, List.any_nil, Bool.or_false, Bool.false_or, Bool.or_true, Bool.true_or, setS, retS, exprS, cstE, op1E, op2E, opnE, consA, nilA, valT, andT, orT, notT, iteE, andE, orE, notE, callE, methE, m0, m1, one, skipS, brkS, cntS, raiseS, subS, parS, var0, set0, var1, set1, var2, set2, var3, set3, var4, set4, var5, set5, var6, set6, var7, set7, var8, set8, var9, set9, var10, set10, var11, set11, var12, set12, var13, set13, var14, set14, var15, set15, var16, set16, var17, set17, var18, set18, var19, set19, wp_bnd, wpr, wpe, wp_chk, bndr, bnde, List.append_nil, List.nil_append, List.cons_append, cond_true, cond_false, decide_eq_true_eq, slc_s1, slc_s2, slc_s3, slc_t1, slc_t2, slc_t3, slc_l1, slc_l2, slc_l3, chk_i, sliceE, add_ii, sub_ii, mul_ii, fdiv_ii, mod_ii, pow_ii, eq_ii, ne_ii, lt_ii, le_ii, gt_ii, ge_ii, add_ss, add_tt, mul_si, eq_ss, ne_ss, eq_bb, neg_i, abs_i, int_i, int_b, len_s, len_t, len_k, max_ii, min_ii, tr_b, tr_i, tr_s, tr_n, ie_i, is_i, isnt_i, ie_s, is_s, isnt_s, ie_b, is_b, isnt_b, ie_t, is_t, isnt_t, ie_l, is_l, isnt_l, ie_k, is_k, isnt_k, ie_n, is_n, isnt_n, ie_e, in_ss, nin_ss, sub_si, sub_ti, kst, end_rt, end_nx]
    exact ⟨fun _ => no (fun h => h) (by unfold isOrd; rw [decide_eq_false (by omega)]; rfl), fun z => by cases z⟩
  simp only [q1, eq_self, decide_true, decide_false, Bool.not_true, Bool.not_false, true_and, and_true, wp_isi, isK, List.any_cons, List.any_nil, Bool.or_false, Bool.false_or, Bool.or_true, Bool.true_or, setS, retS, exprS, cstE, op1E, op2E, opnE, consA, nilA, valT, andT, orT, notT, iteE, andE, orE, notE, callE, methE, m0, m1, one, skipS, brkS, cntS, raiseS, subS, parS, var0, set0, var1, set1, var2, set2, var3, set3, var4, set4, var5, set5, var6, set6, var7, set7, var8, set8, var9, set9, var10, set10, var11, set11, var12, set12, var13, set13, var14, set14, var15, set15, var16, set16, var17, set17, var18, set18, var19, set19, wp_bnd, wpr, wpe, wp_chk, bndr, bnde, List.append_nil, List.nil_append, List.cons_append, cond_true, cond_false, decide_eq_true_eq, slc_s1, slc_s2, slc_s3, slc_t1, slc_t2, slc_t3, slc_l1, slc_l2, slc_l3, chk_i, sliceE, add_ii, sub_ii, mul_ii, fdiv_ii, mod_ii, pow_ii, eq_ii, ne_ii, lt_ii, le_ii, gt_ii, ge_ii, add_ss, add_tt, mul_si, eq_ss, ne_ss, eq_bb, neg_i, abs_i, int_i, int_b, len_s, len_t, len_k, max_ii, min_ii, tr_b, tr_i, tr_s, tr_n, ie_i, is_i, isnt_i, ie_s, is_s, isnt_s, ie_b, is_b, isnt_b, ie_t, is_t, isnt_t, ie_l, is_l, isnt_l, ie_k, is_k, isnt_k, ie_n, is_n, isnt_n, ie_e, in_ss, nin_ss, sub_si, sub_ti, kst, end_rt, end_nx]
  refine ⟨fun z => no (fun h => h) (by unfold isOrd; rw [Bool.and_assoc, Bool.and_eq_false_iff]; right; rw [decide_eq_false (by omega)]; rfl), fun z => wp_seq ?_⟩
  have z : t.length ≤ 5 := by have := of_decide_eq_false z; omega
  have e : isOrd t = (sg t.length).all fun c => t.contains c := by unfold isOrd; rw [decide_eq_true (by omega), decide_eq_true z]; rfl
  unfold c_is_order_2
  refine wp_forI ?_
  simp only [eq_self, decide_true, decide_false, Bool.not_true, Bool.not_false, true_and, and_true, wp_isi, isK, List.any_cons, List.any_nil, Bool.or_false, Bool.false_or, Bool.or_true, Bool.true_or, setS, retS, exprS, cstE, op1E, op2E, opnE, consA, nilA, valT, andT, orT, notT, iteE, andE, orE, notE, callE, methE, m0, m1, one, skipS, brkS, cntS, raiseS, subS, parS, var0, set0, var1, set1, var2, set2, var3, set3, var4, set4, var5, set5, var6, set6, var7, set7, var8, set8, var9, set9, var10, set10, var11, set11, var12, set12, var13, set13, var14, set14, var15, set15, var16, set16, var17, set17, var18, set18, var19, set19, wp_bnd, wpr, wpe, wp_chk, bndr, bnde, List.append_nil, List.nil_append, List.cons_append, cond_true, cond_false, decide_eq_true_eq, slc_s1, slc_s2, slc_s3, slc_t1, slc_t2, slc_t3, slc_l1, slc_l2, slc_l3, chk_i, sliceE, add_ii, sub_ii, mul_ii, fdiv_ii, mod_ii, pow_ii, eq_ii, ne_ii, lt_ii, le_ii, gt_ii, ge_ii, add_ss, add_tt, mul_si, eq_ss, ne_ss, eq_bb, neg_i, abs_i, int_i, int_b, len_s, len_t, len_k, max_ii, min_ii, tr_b, tr_i, tr_s, tr_n, ie_i, is_i, isnt_i, ie_s, is_s, isnt_s, ie_b, is_b, isnt_b, ie_t, is_t, isnt_t, ie_l, is_l, isnt_l, ie_k, is_k, isnt_k, ie_n, is_n, isnt_n, ie_e, in_ss, nin_ss, sub_si, sub_ti, kst, end_rt, end_nx, seqI, itOf, sg_cut z]
  refine wp_strGo (fun i δ S' => S' = S ∧ (∃ x, δ = [some (.str t), x]) ∧ ∀ j c, j < i → (sg t.length)[j]? = some c → t.contains c = true) ⟨rfl, ⟨_, rfl⟩, fun j c h => absurd h (Nat.not_lt_zero _)⟩ (fun i c δ S' hi ⟨e1, ⟨x, eδ⟩, h⟩ => ?_) (fun δ S' ⟨e1, ⟨x, eδ⟩, h⟩ => ?_)
  · subst e1 eδ
    unfold c_is_order_3
    refine wp_ite ?_
    simp only [eq_self, decide_true, decide_false, Bool.not_true, Bool.not_false, true_and, and_true, wp_isi, isK, List.any_cons, List.any_nil, Bool.or_false, Bool.false_or, Bool.or_true, Bool.true_or, setS, retS, exprS, cstE, op1E, op2E, opnE, consA, nilA, valT, andT, orT, notT, iteE, andE, orE, notE, callE, methE, m0, m1, one, skipS, brkS, cntS, raiseS, subS, parS, var0, set0, var1, set1, var2, set2, var3, set3, var4, set4, var5, set5, var6, set6, var7, set7, var8, set8, var9, set9, var10, set10, var11, set11, var12, set12, var13, set13, var14, set14, var15, set15, var16, set16, var17, set17, var18, set18, var19, set19, wp_bnd, wpr, wpe, wp_chk, bndr, bnde, List.append_nil, List.nil_append, List.cons_append, cond_true, cond_false, decide_eq_true_eq, slc_s1, slc_s2, slc_s3, slc_t1, slc_t2, slc_t3, slc_l1, slc_l2, slc_l3, chk_i, sliceE, add_ii, sub_ii, mul_ii, fdiv_ii, mod_ii, pow_ii, eq_ii, ne_ii, lt_ii, le_ii, gt_ii, ge_ii, add_ss, add_tt, mul_si, eq_ss, ne_ss, eq_bb, neg_i, abs_i, int_i, int_b, len_s, len_t, len_k, max_ii, min_ii, tr_b, tr_i, tr_s, tr_n, ie_i, is_i, isnt_i, ie_s, is_s, isnt_s, ie_b, is_b, isnt_b, ie_t, is_t, isnt_t, ie_l, is_l, isnt_l, ie_k, is_k, isnt_k, ie_n, is_n, isnt_n, ie_e, in_ss, nin_ss, sub_si, sub_ti, kst, end_rt, end_nx, List.set, infixB1]
    refine ⟨fun z => ?_, fun z => ⟨rfl, ⟨_, rfl⟩, fun j c' hj hc' => ?_⟩⟩
    · unfold c_is_order_4
      simp only [eq_self, decide_true, decide_false, Bool.not_true, Bool.not_false, true_and, and_true, wp_isi, isK, List.any_cons, List.any_nil, Bool.or_false, Bool.false_or, Bool.or_true, Bool.true_or, setS, retS, exprS, cstE, op1E, op2E, opnE, consA, nilA, valT, andT, orT, notT, iteE, andE, orE, notE, callE, methE, m0, m1, one, skipS, brkS, cntS, raiseS, subS, parS, var0, set0, var1, set1, var2, set2, var3, set3, var4, set4, var5, set5, var6, set6, var7, set7, var8, set8, var9, set9, var10, set10, var11, set11, var12, set12, var13, set13, var14, set14, var15, set15, var16, set16, var17, set17, var18, set18, var19, set19, wp_bnd, wpr, wpe, wp_chk, bndr, bnde, List.append_nil, List.nil_append, List.cons_append, cond_true, cond_false, decide_eq_true_eq, slc_s1, slc_s2, slc_s3, slc_t1, slc_t2, slc_t3, slc_l1, slc_l2, slc_l3, chk_i, sliceE, add_ii, sub_ii, mul_ii, fdiv_ii, mod_ii, pow_ii, eq_ii, ne_ii, lt_ii, le_ii, gt_ii, ge_ii, add_ss, add_tt, mul_si, eq_ss, ne_ss, eq_bb, neg_i, abs_i, int_i, int_b, len_s, len_t, len_k, max_ii, min_ii, tr_b, tr_i, tr_s, tr_n, ie_i, is_i, isnt_i, ie_s, is_s, isnt_s, ie_b, is_b, isnt_b, ie_t, is_t, isnt_t, ie_l, is_l, isnt_l, ie_k, is_k, isnt_k, ie_n, is_n, isnt_n, ie_e, in_ss, nin_ss, sub_si, sub_ti, kst, end_rt, end_nx]
      have e3 : isOrd t = false := by
        rw [e]
        cases q : (sg t.length).all fun c => t.contains c with
        | false => rfl
        | true =>
          rw [List.all_eq_true] at q
          rw [q c (List.mem_of_getElem? hi)] at z
          cases z
      rw [e3] at hq
      exact hq
    · by_cases q : j = i
      · subst q
        rw [hi] at hc'
        cases hc'
        simpa using z
      · exact h j c' (by omega) hc'
  · subst e1 eδ
    unfold c_is_order_5
    (try simp only [eq_self, decide_true, decide_false, Bool.not_true, Bool.not_false, true_and, and_true, wp_isi, isK, List.any_cons, List.any_nil, Bool.or_false, Bool.false_or, Bool.or_true, Bool.true_or, setS, retS, exprS, cstE, op1E, op2E, opnE, consA, nilA, valT, andT, orT, notT, iteE, andE, orE, notE, callE, methE, m0, m1, one, skipS, brkS, cntS, raiseS, subS, parS, var0, set0, var1, set1, var2, set2, var3, set3, var4, set4, var5, set5, var6, set6, var7, set7, var8, set8, var9, set9, var10, set10, var11, set11, var12, set12, var13, set13, var14, set14, var15, set15, var16, set16, var17, set17, var18, set18, var19, set19, wp_bnd, wpr, wpe, wp_chk, bndr, bnde, List.append_nil, List.nil_append, List.cons_append, cond_true, cond_false, decide_eq_true_eq, slc_s1, slc_s2, slc_s3, slc_t1, slc_t2, slc_t3, slc_l1, slc_l2, slc_l3, chk_i, sliceE, add_ii, sub_ii, mul_ii, fdiv_ii, mod_ii, pow_ii, eq_ii, ne_ii, lt_ii, le_ii, gt_ii, ge_ii, add_ss, add_tt, mul_si, eq_ss, ne_ss, eq_bb, neg_i, abs_i, int_i, int_b, len_s, len_t, len_k, max_ii, min_ii, tr_b, tr_i, tr_s, tr_n, ie_i, is_i, isnt_i, ie_s, is_s, isnt_s, ie_b, is_b, isnt_b, ie_t, is_t, isnt_t, ie_l, is_l, isnt_l, ie_k, is_k, isnt_k, ie_n, is_n, isnt_n, ie_e, in_ss, nin_ss, sub_si, sub_ti, kst, end_rt, end_nx])
    have e3 : isOrd t = true := by
      rw [e, List.all_eq_true]
      intro c hc
      obtain ⟨j, hj, ej⟩ := List.getElem_of_mem hc
      exact h j c hj (by rw [List.getElem?_eq_getElem hj, ej])
    rw [e3] at hq
    exact hq
theorem sp_is_renamed {n w : Nat} {o t : List Nat} {S : Store} {Q : D → Store → Prop} {E : Nat → List D → Store → Prop} (ho : Ord w o) (ht : Tx w t) (hz : t.length ≤ 100) (hq : Q (.bl true) S) : Wp (callF LT (n + 1) i_is_renamed [.tup [(D.str [116, 111, 108, 100]), .str (rn o t)], .str o, .str t]) S Q E := by
  rw [e_is_renamed]
  unfold c_is_renamed
  refine wp_def (wp_seq ?_)
  unfold c_is_renamed_0
  refine wp_ite ?_
  have a0 : atL [(D.str [116, 111, 108, 100]), D.str (rn o t)] 0 = ret (D.str [116, 111, 108, 100]) := rfl
  have a1 : atL [(D.str [116, 111, 108, 100]), D.str (rn o t)] 1 = ret (D.str (rn o t)) := rfl
  simp only [eq_self, decide_true, decide_false, Bool.not_true, Bool.not_false, true_and, and_true, wp_isi, isK, List.any_cons, List.any_nil, Bool.or_false, Bool.false_or, Bool.or_true, Bool.true_or, setS, retS, exprS, cstE, op1E, op2E, opnE, consA, nilA, valT, andT, orT, notT, iteE, andE, orE, notE, callE, methE, m0, m1, one, skipS, brkS, cntS, raiseS, subS, parS, var0, set0, var1, set1, var2, set2, var3, set3, var4, set4, var5, set5, var6, set6, var7, set7, var8, set8, var9, set9, var10, set10, var11, set11, var12, set12, var13, set13, var14, set14, var15, set15, var16, set16, var17, set17, var18, set18, var19, set19, wp_bnd, wpr, wpe, wp_chk, bndr, bnde, List.append_nil, List.nil_append, List.cons_append, cond_true, cond_false, decide_eq_true_eq, slc_s1, slc_s2, slc_s3, slc_t1, slc_t2, slc_t3, slc_l1, slc_l2, slc_l3, chk_i, sliceE, add_ii, sub_ii, mul_ii, fdiv_ii, mod_ii, pow_ii, eq_ii, ne_ii, lt_ii, le_ii, gt_ii, ge_ii, add_ss, add_tt, mul_si, eq_ss, ne_ss, eq_bb, neg_i, abs_i, int_i, int_b, len_s, len_t, len_k, max_ii, min_ii, tr_b, tr_i, tr_s, tr_n, ie_i, is_i, isnt_i, ie_s, is_s, isnt_s, ie_b, is_b, isnt_b, ie_t, is_t, isnt_t, ie_l, is_l, isnt_l, ie_k, is_k, isnt_k, ie_n, is_n, isnt_n, ie_e, in_ss, nin_ss, sub_si, sub_ti, kst, end_rt, end_nx, a0, a1, rn_len]
  refine ⟨(fun z => by cases z), fun _ => ?_⟩
  refine wp_seq ?_
  unfold c_is_renamed_2
  refine wp_forR ?_
  (try simp only [eq_self, decide_true, decide_false, Bool.not_true, Bool.not_false, true_and, and_true, wp_isi, isK, List.any_cons, List.any_nil, Bool.or_false, Bool.false_or, Bool.or_true, Bool.true_or, setS, retS, exprS, cstE, op1E, op2E, opnE, consA, nilA, valT, andT, orT, notT, iteE, andE, orE, notE, callE, methE, m0, m1, one, skipS, brkS, cntS, raiseS, subS, parS, var0, set0, var1, set1, var2, set2, var3, set3, var4, set4, var5, set5, var6, set6, var7, set7, var8, set8, var9, set9, var10, set10, var11, set11, var12, set12, var13, set13, var14, set14, var15, set15, var16, set16, var17, set17, var18, set18, var19, set19, wp_bnd, wpr, wpe, wp_chk, bndr, bnde, List.append_nil, List.nil_append, List.cons_append, cond_true, cond_false, decide_eq_true_eq, slc_s1, slc_s2, slc_s3, slc_t1, slc_t2, slc_t3, slc_l1, slc_l2, slc_l3, chk_i, sliceE, add_ii, sub_ii, mul_ii, fdiv_ii, mod_ii, pow_ii, eq_ii, ne_ii, lt_ii, le_ii, gt_ii, ge_ii, add_ss, add_tt, mul_si, eq_ss, ne_ss, eq_bb, neg_i, abs_i, int_i, int_b, len_s, len_t, len_k, max_ii, min_ii, tr_b, tr_i, tr_s, tr_n, ie_i, is_i, isnt_i, ie_s, is_s, isnt_s, ie_b, is_b, isnt_b, ie_t, is_t, isnt_t, ie_l, is_l, isnt_l, ie_k, is_k, isnt_k, ie_n, is_n, isnt_n, ie_e, in_ss, nin_ss, sub_si, sub_ti, kst, end_rt, end_nx])
  refine ⟨_, rfl, rgOk_s (by omega), wp_rgGo (fun i δ S' => S' = S ∧ ∃ x, δ = [some (.tup [(D.str [116, 111, 108, 100]), .str (rn o t)]), some (.str o), some (.str t), x]) ⟨rfl, _, rfl⟩ (fun i δ S' hi ⟨e, x, eδ⟩ => ?_) (fun δ S' ⟨e, x, eδ⟩ => ?_)⟩
  · subst e eδ
    unfold c_is_renamed_3
    refine wp_ite ?_
    have hi : i < t.length := by omega
    have e1 := List.getElem?_eq_getElem hi
    have e2 := ht _ (List.getElem_mem hi)
    generalize t[i] = c at e1 e2
    obtain ⟨y, hy, q⟩ := ho.get (k := c - 48) (by omega)
    have e3 : (rn o t)[i]? = some (48 + y) := by
      unfold rn
      rw [List.getElem?_map, e1]
      show some (o.getD (c - 48) 0) = _
      rw [getD_of q]
    have hi5 := ho.hi
    simp only [eq_self, decide_true, decide_false, Bool.not_true, Bool.not_false, true_and, and_true, wp_isi, isK, List.any_cons, List.any_nil, Bool.or_false, Bool.false_or, Bool.or_true, Bool.true_or, setS, retS, exprS, cstE, op1E, op2E, opnE, consA, nilA, valT, andT, orT, notT, iteE, andE, orE, notE, callE, methE, m0, m1, one, skipS, brkS, cntS, raiseS, subS, parS, var0, set0, var1, set1, var2, set2, var3, set3, var4, set4, var5, set5, var6, set6, var7, set7, var8, set8, var9, set9, var10, set10, var11, set11, var12, set12, var13, set13, var14, set14, var15, set15, var16, set16, var17, set17, var18, set18, var19, set19, wp_bnd, wpr, wpe, wp_chk, bndr, bnde, List.append_nil, List.nil_append, List.cons_append, cond_true, cond_false, decide_eq_true_eq, slc_s1, slc_s2, slc_s3, slc_t1, slc_t2, slc_t3, slc_l1, slc_l2, slc_l3, chk_i, sliceE, add_ii, sub_ii, mul_ii, fdiv_ii, mod_ii, pow_ii, eq_ii, ne_ii, lt_ii, le_ii, gt_ii, ge_ii, add_ss, add_tt, mul_si, eq_ss, ne_ss, eq_bb, neg_i, abs_i, int_i, int_b, len_s, len_t, len_k, max_ii, min_ii, tr_b, tr_i, tr_s, tr_n, ie_i, is_i, isnt_i, ie_s, is_s, isnt_s, ie_b, is_b, isnt_b, ie_t, is_t, isnt_t, ie_l, is_l, isnt_l, ie_k, is_k, isnt_k, ie_n, is_n, isnt_n, ie_e, in_ss, nin_ss, sub_si, sub_ti, kst, end_rt, end_nx, List.set, a1, wp_atL e3, wp_atL e1, int_1 (show 48 ≤ c ∧ c < 58 by omega), wp_atL q]
    exact ⟨(fun z => by cases z), fun _ => ⟨rfl, _, rfl⟩⟩
  · subst e eδ
    unfold c_is_renamed_5
    (try simp only [eq_self, decide_true, decide_false, Bool.not_true, Bool.not_false, true_and, and_true, wp_isi, isK, List.any_cons, List.any_nil, Bool.or_false, Bool.false_or, Bool.or_true, Bool.true_or, setS, retS, exprS, cstE, op1E, op2E, opnE, consA, nilA, valT, andT, orT, notT, iteE, andE, orE, notE, callE, methE, m0, m1, one, skipS, brkS, cntS, raiseS, subS, parS, var0, set0, var1, set1, var2, set2, var3, set3, var4, set4, var5, set5, var6, set6, var7, set7, var8, set8, var9, set9, var10, set10, var11, set11, var12, set12, var13, set13, var14, set14, var15, set15, var16, set16, var17, set17, var18, set18, var19, set19, wp_bnd, wpr, wpe, wp_chk, bndr, bnde, List.append_nil, List.nil_append, List.cons_append, cond_true, cond_false, decide_eq_true_eq, slc_s1, slc_s2, slc_s3, slc_t1, slc_t2, slc_t3, slc_l1, slc_l2, slc_l3, chk_i, sliceE, add_ii, sub_ii, mul_ii, fdiv_ii, mod_ii, pow_ii, eq_ii, ne_ii, lt_ii, le_ii, gt_ii, ge_ii, add_ss, add_tt, mul_si, eq_ss, ne_ss, eq_bb, neg_i, abs_i, int_i, int_b, len_s, len_t, len_k, max_ii, min_ii, tr_b, tr_i, tr_s, tr_n, ie_i, is_i, isnt_i, ie_s, is_s, isnt_s, ie_b, is_b, isnt_b, ie_t, is_t, isnt_t, ie_l, is_l, isnt_l, ie_k, is_k, isnt_k, ie_n, is_n, isnt_n, ie_e, in_ss, nin_ss, sub_si, sub_ti, kst, end_rt, end_nx])
    exact hq
theorem isP_ts {S : Store} {t : List Nat} : isP S (.tup [.str [116, 111, 108, 100], .str t]) (.tup [(D.str [116, 111, 108, 100]), .str t]) := isP_t (isPs_2 isP_s (isPs_1 isP_s)) (by simp)
theorem isP_rr {S : Store} {t : List Nat} : isP S (.tup [.str [114, 101, 102, 117, 115, 101, 100], .tup [.str [66, 97, 100, 82, 111, 119], .str t]]) (.tup [(D.str [114, 101, 102, 117, 115, 101, 100]), .tup [(D.str [66, 97, 100, 82, 111, 119]), .str t]]) := isP_t (isPs_2 isP_s (isPs_1 (isP_t (isPs_2 isP_s (isPs_1 isP_s)) (by simp)))) (by simp)
theorem same_ts {n : Nat} {t : List Nat} {S : Store} {Q : D → Store → Prop} {E : Nat → List D → Store → Prop} (hq : Q (.bl true) S) : Wp (callF LT (n + 3) i_same [.tup [(D.str [116, 111, 108, 100]), .str t], .tup [(D.str [116, 111, 108, 100]), .str t]]) S Q E := sp_same (.tup [.str [116, 111, 108, 100], .str t]) (by simp [PD.depth, PD.depths]) isP_ts isP_ts hq
theorem same_rr {n : Nat} {t : List Nat} {S : Store} {Q : D → Store → Prop} {E : Nat → List D → Store → Prop} (hq : Q (.bl true) S) : Wp (callF LT (n + 3) i_same [.tup [(D.str [114, 101, 102, 117, 115, 101, 100]), .tup [(D.str [66, 97, 100, 82, 111, 119]), .str t]], .tup [(D.str [114, 101, 102, 117, 115, 101, 100]), .tup [(D.str [66, 97, 100, 82, 111, 119]), .str t]]]) S Q E := sp_same (.tup [.str [114, 101, 102, 117, 115, 101, 100], .tup [.str [66, 97, 100, 82, 111, 119], .str t]]) (by simp [PD.depth, PD.depths]) isP_rr isP_rr hq
theorem sp_undone {n w : Nat} {o t : List Nat} {S : Store} {Q : D → Store → Prop} {E : Nat → List D → Store → Prop} (ho : Ord w o) (ht : okT w (most w) t = true) (hq : ∀ S', Pre S S' → Q (.bl true) S') : Wp (callF LT (n + 6) i_undone [.str o, .str t]) S Q E := by
  have ht2 := okT_iff.mp ht
  have hm := most_lt ho.lo ho.hi
  have hb := ho.bk
  have hi5 := ho.hi
  have hlo := ho.lo
  have no : okT w (most w) t = false → False := fun z => by rw [ht] at z; cases z
  have ok1 : okT w (most w) (rn o t) = true := okT_iff.mpr ⟨by rw [rn_len]; exact ht2.1, ho.rn_tx ht2.2⟩
  have ok2 : okT w (most w) (rn (bk o) t) = true := okT_iff.mpr ⟨by rw [rn_len]; exact ht2.1, hb.rn_tx ht2.2⟩
  have g0 : ∀ (d : D), atL [(D.str [116, 111, 108, 100]), d] 0 = ret (D.str [116, 111, 108, 100]) := fun _ => rfl
  have g1 : ∀ (d : D), atL [(D.str [116, 111, 108, 100]), d] 1 = ret d := fun _ => rfl
  rw [e_undone]
  unfold c_undone
  refine wp_def (wp_seq ?_)
  unfold c_undone_0
  (try simp only [eq_self, decide_true, decide_false, Bool.not_true, Bool.not_false, true_and, and_true, wp_isi, isK, List.any_cons, List.any_nil, Bool.or_false, Bool.false_or, Bool.or_true, Bool.true_or, setS, retS, exprS, cstE, op1E, op2E, opnE, consA, nilA, valT, andT, orT, notT, iteE, andE, orE, notE, callE, methE, m0, m1, one, skipS, brkS, cntS, raiseS, subS, parS, var0, set0, var1, set1, var2, set2, var3, set3, var4, set4, var5, set5, var6, set6, var7, set7, var8, set8, var9, set9, var10, set10, var11, set11, var12, set12, var13, set13, var14, set14, var15, set15, var16, set16, var17, set17, var18, set18, var19, set19, wp_bnd, wpr, wpe, wp_chk, bndr, bnde, List.append_nil, List.nil_append, List.cons_append, cond_true, cond_false, decide_eq_true_eq, slc_s1, slc_s2, slc_s3, slc_t1, slc_t2, slc_t3, slc_l1, slc_l2, slc_l3, chk_i, sliceE, add_ii, sub_ii, mul_ii, fdiv_ii, mod_ii, pow_ii, eq_ii, ne_ii, lt_ii, le_ii, gt_ii, ge_ii, add_ss, add_tt, mul_si, eq_ss, ne_ss, eq_bb, neg_i, abs_i, int_i, int_b, len_s, len_t, len_k, max_ii, min_ii, tr_b, tr_i, tr_s, tr_n, ie_i, is_i, isnt_i, ie_s, is_s, isnt_s, ie_b, is_b, isnt_b, ie_t, is_t, isnt_t, ie_l, is_l, isnt_l, ie_k, is_k, isnt_k, ie_n, is_n, isnt_n, ie_e, in_ss, nin_ss, sub_si, sub_ti, kst, end_rt, end_nx])
  refine sp_renamed_by ho (fun _ S1 p1 => ?_) fun z => (no z).elim
  (try simp only [eq_self, decide_true, decide_false, Bool.not_true, Bool.not_false, true_and, and_true, wp_isi, isK, List.any_cons, List.any_nil, Bool.or_false, Bool.false_or, Bool.or_true, Bool.true_or, setS, retS, exprS, cstE, op1E, op2E, opnE, consA, nilA, valT, andT, orT, notT, iteE, andE, orE, notE, callE, methE, m0, m1, one, skipS, brkS, cntS, raiseS, subS, parS, var0, set0, var1, set1, var2, set2, var3, set3, var4, set4, var5, set5, var6, set6, var7, set7, var8, set8, var9, set9, var10, set10, var11, set11, var12, set12, var13, set13, var14, set14, var15, set15, var16, set16, var17, set17, var18, set18, var19, set19, wp_bnd, wpr, wpe, wp_chk, bndr, bnde, List.append_nil, List.nil_append, List.cons_append, cond_true, cond_false, decide_eq_true_eq, slc_s1, slc_s2, slc_s3, slc_t1, slc_t2, slc_t3, slc_l1, slc_l2, slc_l3, chk_i, sliceE, add_ii, sub_ii, mul_ii, fdiv_ii, mod_ii, pow_ii, eq_ii, ne_ii, lt_ii, le_ii, gt_ii, ge_ii, add_ss, add_tt, mul_si, eq_ss, ne_ss, eq_bb, neg_i, abs_i, int_i, int_b, len_s, len_t, len_k, max_ii, min_ii, tr_b, tr_i, tr_s, tr_n, ie_i, is_i, isnt_i, ie_s, is_s, isnt_s, ie_b, is_b, isnt_b, ie_t, is_t, isnt_t, ie_l, is_l, isnt_l, ie_k, is_k, isnt_k, ie_n, is_n, isnt_n, ie_e, in_ss, nin_ss, sub_si, sub_ti, kst, end_rt, end_nx])
  refine wp_seq ?_
  unfold c_undone_1
  refine wp_ite ?_
  (try simp only [eq_self, decide_true, decide_false, Bool.not_true, Bool.not_false, true_and, and_true, wp_isi, isK, List.any_cons, List.any_nil, Bool.or_false, Bool.false_or, Bool.or_true, Bool.true_or, setS, retS, exprS, cstE, op1E, op2E, opnE, consA, nilA, valT, andT, orT, notT, iteE, andE, orE, notE, callE, methE, m0, m1, one, skipS, brkS, cntS, raiseS, subS, parS, var0, set0, var1, set1, var2, set2, var3, set3, var4, set4, var5, set5, var6, set6, var7, set7, var8, set8, var9, set9, var10, set10, var11, set11, var12, set12, var13, set13, var14, set14, var15, set15, var16, set16, var17, set17, var18, set18, var19, set19, wp_bnd, wpr, wpe, wp_chk, bndr, bnde, List.append_nil, List.nil_append, List.cons_append, cond_true, cond_false, decide_eq_true_eq, slc_s1, slc_s2, slc_s3, slc_t1, slc_t2, slc_t3, slc_l1, slc_l2, slc_l3, chk_i, sliceE, add_ii, sub_ii, mul_ii, fdiv_ii, mod_ii, pow_ii, eq_ii, ne_ii, lt_ii, le_ii, gt_ii, ge_ii, add_ss, add_tt, mul_si, eq_ss, ne_ss, eq_bb, neg_i, abs_i, int_i, int_b, len_s, len_t, len_k, max_ii, min_ii, tr_b, tr_i, tr_s, tr_n, ie_i, is_i, isnt_i, ie_s, is_s, isnt_s, ie_b, is_b, isnt_b, ie_t, is_t, isnt_t, ie_l, is_l, isnt_l, ie_k, is_k, isnt_k, ie_n, is_n, isnt_n, ie_e, in_ss, nin_ss, sub_si, sub_ti, kst, end_rt, end_nx])
  refine sp_is_renamed ho ht2.2 (by omega) ?_
  (try simp only [eq_self, decide_true, decide_false, Bool.not_true, Bool.not_false, true_and, and_true, wp_isi, isK, List.any_cons, List.any_nil, Bool.or_false, Bool.false_or, Bool.or_true, Bool.true_or, setS, retS, exprS, cstE, op1E, op2E, opnE, consA, nilA, valT, andT, orT, notT, iteE, andE, orE, notE, callE, methE, m0, m1, one, skipS, brkS, cntS, raiseS, subS, parS, var0, set0, var1, set1, var2, set2, var3, set3, var4, set4, var5, set5, var6, set6, var7, set7, var8, set8, var9, set9, var10, set10, var11, set11, var12, set12, var13, set13, var14, set14, var15, set15, var16, set16, var17, set17, var18, set18, var19, set19, wp_bnd, wpr, wpe, wp_chk, bndr, bnde, List.append_nil, List.nil_append, List.cons_append, cond_true, cond_false, decide_eq_true_eq, slc_s1, slc_s2, slc_s3, slc_t1, slc_t2, slc_t3, slc_l1, slc_l2, slc_l3, chk_i, sliceE, add_ii, sub_ii, mul_ii, fdiv_ii, mod_ii, pow_ii, eq_ii, ne_ii, lt_ii, le_ii, gt_ii, ge_ii, add_ss, add_tt, mul_si, eq_ss, ne_ss, eq_bb, neg_i, abs_i, int_i, int_b, len_s, len_t, len_k, max_ii, min_ii, tr_b, tr_i, tr_s, tr_n, ie_i, is_i, isnt_i, ie_s, is_s, isnt_s, ie_b, is_b, isnt_b, ie_t, is_t, isnt_t, ie_l, is_l, isnt_l, ie_k, is_k, isnt_k, ie_n, is_n, isnt_n, ie_e, in_ss, nin_ss, sub_si, sub_ti, kst, end_rt, end_nx])
  refine ⟨(fun z => by cases z), fun _ => ?_⟩
  refine wp_seq ?_
  unfold c_undone_3
  (try simp only [eq_self, decide_true, decide_false, Bool.not_true, Bool.not_false, true_and, and_true, wp_isi, isK, List.any_cons, List.any_nil, Bool.or_false, Bool.false_or, Bool.or_true, Bool.true_or, setS, retS, exprS, cstE, op1E, op2E, opnE, consA, nilA, valT, andT, orT, notT, iteE, andE, orE, notE, callE, methE, m0, m1, one, skipS, brkS, cntS, raiseS, subS, parS, var0, set0, var1, set1, var2, set2, var3, set3, var4, set4, var5, set5, var6, set6, var7, set7, var8, set8, var9, set9, var10, set10, var11, set11, var12, set12, var13, set13, var14, set14, var15, set15, var16, set16, var17, set17, var18, set18, var19, set19, wp_bnd, wpr, wpe, wp_chk, bndr, bnde, List.append_nil, List.nil_append, List.cons_append, cond_true, cond_false, decide_eq_true_eq, slc_s1, slc_s2, slc_s3, slc_t1, slc_t2, slc_t3, slc_l1, slc_l2, slc_l3, chk_i, sliceE, add_ii, sub_ii, mul_ii, fdiv_ii, mod_ii, pow_ii, eq_ii, ne_ii, lt_ii, le_ii, gt_ii, ge_ii, add_ss, add_tt, mul_si, eq_ss, ne_ss, eq_bb, neg_i, abs_i, int_i, int_b, len_s, len_t, len_k, max_ii, min_ii, tr_b, tr_i, tr_s, tr_n, ie_i, is_i, isnt_i, ie_s, is_s, isnt_s, ie_b, is_b, isnt_b, ie_t, is_t, isnt_t, ie_l, is_l, isnt_l, ie_k, is_k, isnt_k, ie_n, is_n, isnt_n, ie_e, in_ss, nin_ss, sub_si, sub_ti, kst, end_rt, end_nx])
  refine sp_back_of ho fun S2 p2 => ?_
  (try simp only [eq_self, decide_true, decide_false, Bool.not_true, Bool.not_false, true_and, and_true, wp_isi, isK, List.any_cons, List.any_nil, Bool.or_false, Bool.false_or, Bool.or_true, Bool.true_or, setS, retS, exprS, cstE, op1E, op2E, opnE, consA, nilA, valT, andT, orT, notT, iteE, andE, orE, notE, callE, methE, m0, m1, one, skipS, brkS, cntS, raiseS, subS, parS, var0, set0, var1, set1, var2, set2, var3, set3, var4, set4, var5, set5, var6, set6, var7, set7, var8, set8, var9, set9, var10, set10, var11, set11, var12, set12, var13, set13, var14, set14, var15, set15, var16, set16, var17, set17, var18, set18, var19, set19, wp_bnd, wpr, wpe, wp_chk, bndr, bnde, List.append_nil, List.nil_append, List.cons_append, cond_true, cond_false, decide_eq_true_eq, slc_s1, slc_s2, slc_s3, slc_t1, slc_t2, slc_t3, slc_l1, slc_l2, slc_l3, chk_i, sliceE, add_ii, sub_ii, mul_ii, fdiv_ii, mod_ii, pow_ii, eq_ii, ne_ii, lt_ii, le_ii, gt_ii, ge_ii, add_ss, add_tt, mul_si, eq_ss, ne_ss, eq_bb, neg_i, abs_i, int_i, int_b, len_s, len_t, len_k, max_ii, min_ii, tr_b, tr_i, tr_s, tr_n, ie_i, is_i, isnt_i, ie_s, is_s, isnt_s, ie_b, is_b, isnt_b, ie_t, is_t, isnt_t, ie_l, is_l, isnt_l, ie_k, is_k, isnt_k, ie_n, is_n, isnt_n, ie_e, in_ss, nin_ss, sub_si, sub_ti, kst, end_rt, end_nx])
  refine wp_seq ?_
  unfold c_undone_4
  refine wp_ite ?_
  simp only [eq_self, decide_true, decide_false, Bool.not_true, Bool.not_false, true_and, and_true, wp_isi, isK, List.any_cons, List.any_nil, Bool.or_false, Bool.false_or, Bool.or_true, Bool.true_or, setS, retS, exprS, cstE, op1E, op2E, opnE, consA, nilA, valT, andT, orT, notT, iteE, andE, orE, notE, callE, methE, m0, m1, one, skipS, brkS, cntS, raiseS, subS, parS, var0, set0, var1, set1, var2, set2, var3, set3, var4, set4, var5, set5, var6, set6, var7, set7, var8, set8, var9, set9, var10, set10, var11, set11, var12, set12, var13, set13, var14, set14, var15, set15, var16, set16, var17, set17, var18, set18, var19, set19, wp_bnd, wpr, wpe, wp_chk, bndr, bnde, List.append_nil, List.nil_append, List.cons_append, cond_true, cond_false, decide_eq_true_eq, slc_s1, slc_s2, slc_s3, slc_t1, slc_t2, slc_t3, slc_l1, slc_l2, slc_l3, chk_i, sliceE, add_ii, sub_ii, mul_ii, fdiv_ii, mod_ii, pow_ii, eq_ii, ne_ii, lt_ii, le_ii, gt_ii, ge_ii, add_ss, add_tt, mul_si, eq_ss, ne_ss, eq_bb, neg_i, abs_i, int_i, int_b, len_s, len_t, len_k, max_ii, min_ii, tr_b, tr_i, tr_s, tr_n, ie_i, is_i, isnt_i, ie_s, is_s, isnt_s, ie_b, is_b, isnt_b, ie_t, is_t, isnt_t, ie_l, is_l, isnt_l, ie_k, is_k, isnt_k, ie_n, is_n, isnt_n, ie_e, in_ss, nin_ss, sub_si, sub_ti, kst, end_rt, end_nx, g0, g1]
  refine sp_is_order ?_
  simp only [eq_self, decide_true, decide_false, Bool.not_true, Bool.not_false, true_and, and_true, wp_isi, isK, List.any_cons, List.any_nil, Bool.or_false, Bool.false_or, Bool.or_true, Bool.true_or, setS, retS, exprS, cstE, op1E, op2E, opnE, consA, nilA, valT, andT, orT, notT, iteE, andE, orE, notE, callE, methE, m0, m1, one, skipS, brkS, cntS, raiseS, subS, parS, var0, set0, var1, set1, var2, set2, var3, set3, var4, set4, var5, set5, var6, set6, var7, set7, var8, set8, var9, set9, var10, set10, var11, set11, var12, set12, var13, set13, var14, set14, var15, set15, var16, set16, var17, set17, var18, set18, var19, set19, wp_bnd, wpr, wpe, wp_chk, bndr, bnde, List.append_nil, List.nil_append, List.cons_append, cond_true, cond_false, decide_eq_true_eq, slc_s1, slc_s2, slc_s3, slc_t1, slc_t2, slc_t3, slc_l1, slc_l2, slc_l3, chk_i, sliceE, add_ii, sub_ii, mul_ii, fdiv_ii, mod_ii, pow_ii, eq_ii, ne_ii, lt_ii, le_ii, gt_ii, ge_ii, add_ss, add_tt, mul_si, eq_ss, ne_ss, eq_bb, neg_i, abs_i, int_i, int_b, len_s, len_t, len_k, max_ii, min_ii, tr_b, tr_i, tr_s, tr_n, ie_i, is_i, isnt_i, ie_s, is_s, isnt_s, ie_b, is_b, isnt_b, ie_t, is_t, isnt_t, ie_l, is_l, isnt_l, ie_k, is_k, isnt_k, ie_n, is_n, isnt_n, ie_e, in_ss, nin_ss, sub_si, sub_ti, kst, end_rt, end_nx, hb.isOrd, g1, bk_len]
  refine ⟨(fun z => by cases z), fun _ => wp_seq ?_⟩
  unfold c_undone_6
  refine wp_forR ?_
  (try simp only [eq_self, decide_true, decide_false, Bool.not_true, Bool.not_false, true_and, and_true, wp_isi, isK, List.any_cons, List.any_nil, Bool.or_false, Bool.false_or, Bool.or_true, Bool.true_or, setS, retS, exprS, cstE, op1E, op2E, opnE, consA, nilA, valT, andT, orT, notT, iteE, andE, orE, notE, callE, methE, m0, m1, one, skipS, brkS, cntS, raiseS, subS, parS, var0, set0, var1, set1, var2, set2, var3, set3, var4, set4, var5, set5, var6, set6, var7, set7, var8, set8, var9, set9, var10, set10, var11, set11, var12, set12, var13, set13, var14, set14, var15, set15, var16, set16, var17, set17, var18, set18, var19, set19, wp_bnd, wpr, wpe, wp_chk, bndr, bnde, List.append_nil, List.nil_append, List.cons_append, cond_true, cond_false, decide_eq_true_eq, slc_s1, slc_s2, slc_s3, slc_t1, slc_t2, slc_t3, slc_l1, slc_l2, slc_l3, chk_i, sliceE, add_ii, sub_ii, mul_ii, fdiv_ii, mod_ii, pow_ii, eq_ii, ne_ii, lt_ii, le_ii, gt_ii, ge_ii, add_ss, add_tt, mul_si, eq_ss, ne_ss, eq_bb, neg_i, abs_i, int_i, int_b, len_s, len_t, len_k, max_ii, min_ii, tr_b, tr_i, tr_s, tr_n, ie_i, is_i, isnt_i, ie_s, is_s, isnt_s, ie_b, is_b, isnt_b, ie_t, is_t, isnt_t, ie_l, is_l, isnt_l, ie_k, is_k, isnt_k, ie_n, is_n, isnt_n, ie_e, in_ss, nin_ss, sub_si, sub_ti, kst, end_rt, end_nx])
  refine ⟨_, rfl, rgOk_s (by rw [ho.len]; omega), wp_rgGo (fun i δ S' => S' = S2 ∧ ∃ x, δ = [some (.str o), some (.str t), some (.tup [(D.str [116, 111, 108, 100]), .str (rn o t)]), some (.tup [(D.str [116, 111, 108, 100]), .str (bk o)]), x, none]) ⟨rfl, _, rfl⟩ (fun i δ S' hi ⟨e, x, eδ⟩ => ?_) (fun δ S' ⟨e, x, eδ⟩ => ?_)⟩
  · subst e eδ
    unfold c_undone_7
    refine wp_ite ?_
    have hi : i < w := by rw [ho.len] at hi; omega
    obtain ⟨y, hy, q⟩ := ho.get hi
    have q2 := ho.bk_get hy q
    have s1 : strD (.int (i : Int)) = ret (.str [48 + i]) := str_1 (by omega)
    have d1 : (48 + y - 48 : Nat) = y := by omega
    simp only [eq_self, decide_true, decide_false, Bool.not_true, Bool.not_false, true_and, and_true, wp_isi, isK, List.any_cons, List.any_nil, Bool.or_false, Bool.false_or, Bool.or_true, Bool.true_or, setS, retS, exprS, cstE, op1E, op2E, opnE, consA, nilA, valT, andT, orT, notT, iteE, andE, orE, notE, callE, methE, m0, m1, one, skipS, brkS, cntS, raiseS, subS, parS, var0, set0, var1, set1, var2, set2, var3, set3, var4, set4, var5, set5, var6, set6, var7, set7, var8, set8, var9, set9, var10, set10, var11, set11, var12, set12, var13, set13, var14, set14, var15, set15, var16, set16, var17, set17, var18, set18, var19, set19, wp_bnd, wpr, wpe, wp_chk, bndr, bnde, List.append_nil, List.nil_append, List.cons_append, cond_true, cond_false, decide_eq_true_eq, slc_s1, slc_s2, slc_s3, slc_t1, slc_t2, slc_t3, slc_l1, slc_l2, slc_l3, chk_i, sliceE, add_ii, sub_ii, mul_ii, fdiv_ii, mod_ii, pow_ii, eq_ii, ne_ii, lt_ii, le_ii, gt_ii, ge_ii, add_ss, add_tt, mul_si, eq_ss, ne_ss, eq_bb, neg_i, abs_i, int_i, int_b, len_s, len_t, len_k, max_ii, min_ii, tr_b, tr_i, tr_s, tr_n, ie_i, is_i, isnt_i, ie_s, is_s, isnt_s, ie_b, is_b, isnt_b, ie_t, is_t, isnt_t, ie_l, is_l, isnt_l, ie_k, is_k, isnt_k, ie_n, is_n, isnt_n, ie_e, in_ss, nin_ss, sub_si, sub_ti, kst, end_rt, end_nx, List.set, g1, wp_atL q, int_1 (show 48 ≤ 48 + y ∧ 48 + y < 58 by omega), d1, wp_atL q2, s1]
    exact ⟨(fun z => by cases z), fun _ => ⟨rfl, _, rfl⟩⟩
  subst e eδ
  refine wp_seq ?_
  unfold c_undone_9
  refine wp_ite ?_
  simp only [eq_self, decide_true, decide_false, Bool.not_true, Bool.not_false, true_and, and_true, wp_isi, isK, List.any_cons, List.any_nil, Bool.or_false, Bool.false_or, Bool.or_true, Bool.true_or, setS, retS, exprS, cstE, op1E, op2E, opnE, consA, nilA, valT, andT, orT, notT, iteE, andE, orE, notE, callE, methE, m0, m1, one, skipS, brkS, cntS, raiseS, subS, parS, var0, set0, var1, set1, var2, set2, var3, set3, var4, set4, var5, set5, var6, set6, var7, set7, var8, set8, var9, set9, var10, set10, var11, set11, var12, set12, var13, set13, var14, set14, var15, set15, var16, set16, var17, set17, var18, set18, var19, set19, wp_bnd, wpr, wpe, wp_chk, bndr, bnde, List.append_nil, List.nil_append, List.cons_append, cond_true, cond_false, decide_eq_true_eq, slc_s1, slc_s2, slc_s3, slc_t1, slc_t2, slc_t3, slc_l1, slc_l2, slc_l3, chk_i, sliceE, add_ii, sub_ii, mul_ii, fdiv_ii, mod_ii, pow_ii, eq_ii, ne_ii, lt_ii, le_ii, gt_ii, ge_ii, add_ss, add_tt, mul_si, eq_ss, ne_ss, eq_bb, neg_i, abs_i, int_i, int_b, len_s, len_t, len_k, max_ii, min_ii, tr_b, tr_i, tr_s, tr_n, ie_i, is_i, isnt_i, ie_s, is_s, isnt_s, ie_b, is_b, isnt_b, ie_t, is_t, isnt_t, ie_l, is_l, isnt_l, ie_k, is_k, isnt_k, ie_n, is_n, isnt_n, ie_e, in_ss, nin_ss, sub_si, sub_ti, kst, end_rt, end_nx, g1]
  refine sp_renamed_by hb (fun _ S3 p3 => ?_) fun z => by rw [ok1] at z; cases z
  rw [ho.undo ht2.2]
  simp only [eq_self, decide_true, decide_false, Bool.not_true, Bool.not_false, true_and, and_true, wp_isi, isK, List.any_cons, List.any_nil, Bool.or_false, Bool.false_or, Bool.or_true, Bool.true_or, setS, retS, exprS, cstE, op1E, op2E, opnE, consA, nilA, valT, andT, orT, notT, iteE, andE, orE, notE, callE, methE, m0, m1, one, skipS, brkS, cntS, raiseS, subS, parS, var0, set0, var1, set1, var2, set2, var3, set3, var4, set4, var5, set5, var6, set6, var7, set7, var8, set8, var9, set9, var10, set10, var11, set11, var12, set12, var13, set13, var14, set14, var15, set15, var16, set16, var17, set17, var18, set18, var19, set19, wp_bnd, wpr, wpe, wp_chk, bndr, bnde, List.append_nil, List.nil_append, List.cons_append, cond_true, cond_false, decide_eq_true_eq, slc_s1, slc_s2, slc_s3, slc_t1, slc_t2, slc_t3, slc_l1, slc_l2, slc_l3, chk_i, sliceE, add_ii, sub_ii, mul_ii, fdiv_ii, mod_ii, pow_ii, eq_ii, ne_ii, lt_ii, le_ii, gt_ii, ge_ii, add_ss, add_tt, mul_si, eq_ss, ne_ss, eq_bb, neg_i, abs_i, int_i, int_b, len_s, len_t, len_k, max_ii, min_ii, tr_b, tr_i, tr_s, tr_n, ie_i, is_i, isnt_i, ie_s, is_s, isnt_s, ie_b, is_b, isnt_b, ie_t, is_t, isnt_t, ie_l, is_l, isnt_l, ie_k, is_k, isnt_k, ie_n, is_n, isnt_n, ie_e, in_ss, nin_ss, sub_si, sub_ti, kst, end_rt, end_nx, wp_mkTup]
  refine ⟨rfl, by simp [SZ], same_ts ?_⟩
  (try simp only [eq_self, decide_true, decide_false, Bool.not_true, Bool.not_false, true_and, and_true, wp_isi, isK, List.any_cons, List.any_nil, Bool.or_false, Bool.false_or, Bool.or_true, Bool.true_or, setS, retS, exprS, cstE, op1E, op2E, opnE, consA, nilA, valT, andT, orT, notT, iteE, andE, orE, notE, callE, methE, m0, m1, one, skipS, brkS, cntS, raiseS, subS, parS, var0, set0, var1, set1, var2, set2, var3, set3, var4, set4, var5, set5, var6, set6, var7, set7, var8, set8, var9, set9, var10, set10, var11, set11, var12, set12, var13, set13, var14, set14, var15, set15, var16, set16, var17, set17, var18, set18, var19, set19, wp_bnd, wpr, wpe, wp_chk, bndr, bnde, List.append_nil, List.nil_append, List.cons_append, cond_true, cond_false, decide_eq_true_eq, slc_s1, slc_s2, slc_s3, slc_t1, slc_t2, slc_t3, slc_l1, slc_l2, slc_l3, chk_i, sliceE, add_ii, sub_ii, mul_ii, fdiv_ii, mod_ii, pow_ii, eq_ii, ne_ii, lt_ii, le_ii, gt_ii, ge_ii, add_ss, add_tt, mul_si, eq_ss, ne_ss, eq_bb, neg_i, abs_i, int_i, int_b, len_s, len_t, len_k, max_ii, min_ii, tr_b, tr_i, tr_s, tr_n, ie_i, is_i, isnt_i, ie_s, is_s, isnt_s, ie_b, is_b, isnt_b, ie_t, is_t, isnt_t, ie_l, is_l, isnt_l, ie_k, is_k, isnt_k, ie_n, is_n, isnt_n, ie_e, in_ss, nin_ss, sub_si, sub_ti, kst, end_rt, end_nx])
  refine ⟨(fun z => by cases z), fun _ => wp_seq ?_⟩
  unfold c_undone_11
  simp only [eq_self, decide_true, decide_false, Bool.not_true, Bool.not_false, true_and, and_true, wp_isi, isK, List.any_cons, List.any_nil, Bool.or_false, Bool.false_or, Bool.or_true, Bool.true_or, setS, retS, exprS, cstE, op1E, op2E, opnE, consA, nilA, valT, andT, orT, notT, iteE, andE, orE, notE, callE, methE, m0, m1, one, skipS, brkS, cntS, raiseS, subS, parS, var0, set0, var1, set1, var2, set2, var3, set3, var4, set4, var5, set5, var6, set6, var7, set7, var8, set8, var9, set9, var10, set10, var11, set11, var12, set12, var13, set13, var14, set14, var15, set15, var16, set16, var17, set17, var18, set18, var19, set19, wp_bnd, wpr, wpe, wp_chk, bndr, bnde, List.append_nil, List.nil_append, List.cons_append, cond_true, cond_false, decide_eq_true_eq, slc_s1, slc_s2, slc_s3, slc_t1, slc_t2, slc_t3, slc_l1, slc_l2, slc_l3, chk_i, sliceE, add_ii, sub_ii, mul_ii, fdiv_ii, mod_ii, pow_ii, eq_ii, ne_ii, lt_ii, le_ii, gt_ii, ge_ii, add_ss, add_tt, mul_si, eq_ss, ne_ss, eq_bb, neg_i, abs_i, int_i, int_b, len_s, len_t, len_k, max_ii, min_ii, tr_b, tr_i, tr_s, tr_n, ie_i, is_i, isnt_i, ie_s, is_s, isnt_s, ie_b, is_b, isnt_b, ie_t, is_t, isnt_t, ie_l, is_l, isnt_l, ie_k, is_k, isnt_k, ie_n, is_n, isnt_n, ie_e, in_ss, nin_ss, sub_si, sub_ti, kst, end_rt, end_nx, g1]
  refine sp_renamed_by hb (fun _ S4 p4 => ?_) fun z => (no z).elim
  (try simp only [eq_self, decide_true, decide_false, Bool.not_true, Bool.not_false, true_and, and_true, wp_isi, isK, List.any_cons, List.any_nil, Bool.or_false, Bool.false_or, Bool.or_true, Bool.true_or, setS, retS, exprS, cstE, op1E, op2E, opnE, consA, nilA, valT, andT, orT, notT, iteE, andE, orE, notE, callE, methE, m0, m1, one, skipS, brkS, cntS, raiseS, subS, parS, var0, set0, var1, set1, var2, set2, var3, set3, var4, set4, var5, set5, var6, set6, var7, set7, var8, set8, var9, set9, var10, set10, var11, set11, var12, set12, var13, set13, var14, set14, var15, set15, var16, set16, var17, set17, var18, set18, var19, set19, wp_bnd, wpr, wpe, wp_chk, bndr, bnde, List.append_nil, List.nil_append, List.cons_append, cond_true, cond_false, decide_eq_true_eq, slc_s1, slc_s2, slc_s3, slc_t1, slc_t2, slc_t3, slc_l1, slc_l2, slc_l3, chk_i, sliceE, add_ii, sub_ii, mul_ii, fdiv_ii, mod_ii, pow_ii, eq_ii, ne_ii, lt_ii, le_ii, gt_ii, ge_ii, add_ss, add_tt, mul_si, eq_ss, ne_ss, eq_bb, neg_i, abs_i, int_i, int_b, len_s, len_t, len_k, max_ii, min_ii, tr_b, tr_i, tr_s, tr_n, ie_i, is_i, isnt_i, ie_s, is_s, isnt_s, ie_b, is_b, isnt_b, ie_t, is_t, isnt_t, ie_l, is_l, isnt_l, ie_k, is_k, isnt_k, ie_n, is_n, isnt_n, ie_e, in_ss, nin_ss, sub_si, sub_ti, kst, end_rt, end_nx])
  refine wp_seq ?_
  unfold c_undone_12
  refine wp_ite ?_
  simp only [eq_self, decide_true, decide_false, Bool.not_true, Bool.not_false, true_and, and_true, wp_isi, isK, List.any_cons, List.any_nil, Bool.or_false, Bool.false_or, Bool.or_true, Bool.true_or, setS, retS, exprS, cstE, op1E, op2E, opnE, consA, nilA, valT, andT, orT, notT, iteE, andE, orE, notE, callE, methE, m0, m1, one, skipS, brkS, cntS, raiseS, subS, parS, var0, set0, var1, set1, var2, set2, var3, set3, var4, set4, var5, set5, var6, set6, var7, set7, var8, set8, var9, set9, var10, set10, var11, set11, var12, set12, var13, set13, var14, set14, var15, set15, var16, set16, var17, set17, var18, set18, var19, set19, wp_bnd, wpr, wpe, wp_chk, bndr, bnde, List.append_nil, List.nil_append, List.cons_append, cond_true, cond_false, decide_eq_true_eq, slc_s1, slc_s2, slc_s3, slc_t1, slc_t2, slc_t3, slc_l1, slc_l2, slc_l3, chk_i, sliceE, add_ii, sub_ii, mul_ii, fdiv_ii, mod_ii, pow_ii, eq_ii, ne_ii, lt_ii, le_ii, gt_ii, ge_ii, add_ss, add_tt, mul_si, eq_ss, ne_ss, eq_bb, neg_i, abs_i, int_i, int_b, len_s, len_t, len_k, max_ii, min_ii, tr_b, tr_i, tr_s, tr_n, ie_i, is_i, isnt_i, ie_s, is_s, isnt_s, ie_b, is_b, isnt_b, ie_t, is_t, isnt_t, ie_l, is_l, isnt_l, ie_k, is_k, isnt_k, ie_n, is_n, isnt_n, ie_e, in_ss, nin_ss, sub_si, sub_ti, kst, end_rt, end_nx, g0, g1]
  refine sp_renamed_by ho (fun _ S5 p5 => ?_) fun z => by rw [ok2] at z; cases z
  rw [ho.redo ht2.2]
  simp only [eq_self, decide_true, decide_false, Bool.not_true, Bool.not_false, true_and, and_true, wp_isi, isK, List.any_cons, List.any_nil, Bool.or_false, Bool.false_or, Bool.or_true, Bool.true_or, setS, retS, exprS, cstE, op1E, op2E, opnE, consA, nilA, valT, andT, orT, notT, iteE, andE, orE, notE, callE, methE, m0, m1, one, skipS, brkS, cntS, raiseS, subS, parS, var0, set0, var1, set1, var2, set2, var3, set3, var4, set4, var5, set5, var6, set6, var7, set7, var8, set8, var9, set9, var10, set10, var11, set11, var12, set12, var13, set13, var14, set14, var15, set15, var16, set16, var17, set17, var18, set18, var19, set19, wp_bnd, wpr, wpe, wp_chk, bndr, bnde, List.append_nil, List.nil_append, List.cons_append, cond_true, cond_false, decide_eq_true_eq, slc_s1, slc_s2, slc_s3, slc_t1, slc_t2, slc_t3, slc_l1, slc_l2, slc_l3, chk_i, sliceE, add_ii, sub_ii, mul_ii, fdiv_ii, mod_ii, pow_ii, eq_ii, ne_ii, lt_ii, le_ii, gt_ii, ge_ii, add_ss, add_tt, mul_si, eq_ss, ne_ss, eq_bb, neg_i, abs_i, int_i, int_b, len_s, len_t, len_k, max_ii, min_ii, tr_b, tr_i, tr_s, tr_n, ie_i, is_i, isnt_i, ie_s, is_s, isnt_s, ie_b, is_b, isnt_b, ie_t, is_t, isnt_t, ie_l, is_l, isnt_l, ie_k, is_k, isnt_k, ie_n, is_n, isnt_n, ie_e, in_ss, nin_ss, sub_si, sub_ti, kst, end_rt, end_nx, wp_mkTup]
  refine ⟨rfl, by simp [SZ], same_ts ?_⟩
  (try simp only [eq_self, decide_true, decide_false, Bool.not_true, Bool.not_false, true_and, and_true, wp_isi, isK, List.any_cons, List.any_nil, Bool.or_false, Bool.false_or, Bool.or_true, Bool.true_or, setS, retS, exprS, cstE, op1E, op2E, opnE, consA, nilA, valT, andT, orT, notT, iteE, andE, orE, notE, callE, methE, m0, m1, one, skipS, brkS, cntS, raiseS, subS, parS, var0, set0, var1, set1, var2, set2, var3, set3, var4, set4, var5, set5, var6, set6, var7, set7, var8, set8, var9, set9, var10, set10, var11, set11, var12, set12, var13, set13, var14, set14, var15, set15, var16, set16, var17, set17, var18, set18, var19, set19, wp_bnd, wpr, wpe, wp_chk, bndr, bnde, List.append_nil, List.nil_append, List.cons_append, cond_true, cond_false, decide_eq_true_eq, slc_s1, slc_s2, slc_s3, slc_t1, slc_t2, slc_t3, slc_l1, slc_l2, slc_l3, chk_i, sliceE, add_ii, sub_ii, mul_ii, fdiv_ii, mod_ii, pow_ii, eq_ii, ne_ii, lt_ii, le_ii, gt_ii, ge_ii, add_ss, add_tt, mul_si, eq_ss, ne_ss, eq_bb, neg_i, abs_i, int_i, int_b, len_s, len_t, len_k, max_ii, min_ii, tr_b, tr_i, tr_s, tr_n, ie_i, is_i, isnt_i, ie_s, is_s, isnt_s, ie_b, is_b, isnt_b, ie_t, is_t, isnt_t, ie_l, is_l, isnt_l, ie_k, is_k, isnt_k, ie_n, is_n, isnt_n, ie_e, in_ss, nin_ss, sub_si, sub_ti, kst, end_rt, end_nx])
  refine ⟨(fun z => by cases z), fun _ => ?_⟩
  unfold c_undone_14
  simp only [eq_self, decide_true, decide_false, Bool.not_true, Bool.not_false, true_and, and_true, wp_isi, isK, List.any_cons, List.any_nil, Bool.or_false, Bool.false_or, Bool.or_true, Bool.true_or, setS, retS, exprS, cstE, op1E, op2E, opnE, consA, nilA, valT, andT, orT, notT, iteE, andE, orE, notE, callE, methE, m0, m1, one, skipS, brkS, cntS, raiseS, subS, parS, var0, set0, var1, set1, var2, set2, var3, set3, var4, set4, var5, set5, var6, set6, var7, set7, var8, set8, var9, set9, var10, set10, var11, set11, var12, set12, var13, set13, var14, set14, var15, set15, var16, set16, var17, set17, var18, set18, var19, set19, wp_bnd, wpr, wpe, wp_chk, bndr, bnde, List.append_nil, List.nil_append, List.cons_append, cond_true, cond_false, decide_eq_true_eq, slc_s1, slc_s2, slc_s3, slc_t1, slc_t2, slc_t3, slc_l1, slc_l2, slc_l3, chk_i, sliceE, add_ii, sub_ii, mul_ii, fdiv_ii, mod_ii, pow_ii, eq_ii, ne_ii, lt_ii, le_ii, gt_ii, ge_ii, add_ss, add_tt, mul_si, eq_ss, ne_ss, eq_bb, neg_i, abs_i, int_i, int_b, len_s, len_t, len_k, max_ii, min_ii, tr_b, tr_i, tr_s, tr_n, ie_i, is_i, isnt_i, ie_s, is_s, isnt_s, ie_b, is_b, isnt_b, ie_t, is_t, isnt_t, ie_l, is_l, isnt_l, ie_k, is_k, isnt_k, ie_n, is_n, isnt_n, ie_e, in_ss, nin_ss, sub_si, sub_ti, kst, end_rt, end_nx, g1]
  refine sp_back_of hb fun S6 p6 => ?_
  rw [ho.bkbk]
  simp only [eq_self, decide_true, decide_false, Bool.not_true, Bool.not_false, true_and, and_true, wp_isi, isK, List.any_cons, List.any_nil, Bool.or_false, Bool.false_or, Bool.or_true, Bool.true_or, setS, retS, exprS, cstE, op1E, op2E, opnE, consA, nilA, valT, andT, orT, notT, iteE, andE, orE, notE, callE, methE, m0, m1, one, skipS, brkS, cntS, raiseS, subS, parS, var0, set0, var1, set1, var2, set2, var3, set3, var4, set4, var5, set5, var6, set6, var7, set7, var8, set8, var9, set9, var10, set10, var11, set11, var12, set12, var13, set13, var14, set14, var15, set15, var16, set16, var17, set17, var18, set18, var19, set19, wp_bnd, wpr, wpe, wp_chk, bndr, bnde, List.append_nil, List.nil_append, List.cons_append, cond_true, cond_false, decide_eq_true_eq, slc_s1, slc_s2, slc_s3, slc_t1, slc_t2, slc_t3, slc_l1, slc_l2, slc_l3, chk_i, sliceE, add_ii, sub_ii, mul_ii, fdiv_ii, mod_ii, pow_ii, eq_ii, ne_ii, lt_ii, le_ii, gt_ii, ge_ii, add_ss, add_tt, mul_si, eq_ss, ne_ss, eq_bb, neg_i, abs_i, int_i, int_b, len_s, len_t, len_k, max_ii, min_ii, tr_b, tr_i, tr_s, tr_n, ie_i, is_i, isnt_i, ie_s, is_s, isnt_s, ie_b, is_b, isnt_b, ie_t, is_t, isnt_t, ie_l, is_l, isnt_l, ie_k, is_k, isnt_k, ie_n, is_n, isnt_n, ie_e, in_ss, nin_ss, sub_si, sub_ti, kst, end_rt, end_nx, wp_mkTup]
  refine ⟨rfl, by simp [SZ], same_ts ?_⟩
  (try simp only [eq_self, decide_true, decide_false, Bool.not_true, Bool.not_false, true_and, and_true, wp_isi, isK, List.any_cons, List.any_nil, Bool.or_false, Bool.false_or, Bool.or_true, Bool.true_or, setS, retS, exprS, cstE, op1E, op2E, opnE, consA, nilA, valT, andT, orT, notT, iteE, andE, orE, notE, callE, methE, m0, m1, one, skipS, brkS, cntS, raiseS, subS, parS, var0, set0, var1, set1, var2, set2, var3, set3, var4, set4, var5, set5, var6, set6, var7, set7, var8, set8, var9, set9, var10, set10, var11, set11, var12, set12, var13, set13, var14, set14, var15, set15, var16, set16, var17, set17, var18, set18, var19, set19, wp_bnd, wpr, wpe, wp_chk, bndr, bnde, List.append_nil, List.nil_append, List.cons_append, cond_true, cond_false, decide_eq_true_eq, slc_s1, slc_s2, slc_s3, slc_t1, slc_t2, slc_t3, slc_l1, slc_l2, slc_l3, chk_i, sliceE, add_ii, sub_ii, mul_ii, fdiv_ii, mod_ii, pow_ii, eq_ii, ne_ii, lt_ii, le_ii, gt_ii, ge_ii, add_ss, add_tt, mul_si, eq_ss, ne_ss, eq_bb, neg_i, abs_i, int_i, int_b, len_s, len_t, len_k, max_ii, min_ii, tr_b, tr_i, tr_s, tr_n, ie_i, is_i, isnt_i, ie_s, is_s, isnt_s, ie_b, is_b, isnt_b, ie_t, is_t, isnt_t, ie_l, is_l, isnt_l, ie_k, is_k, isnt_k, ie_n, is_n, isnt_n, ie_e, in_ss, nin_ss, sub_si, sub_ti, kst, end_rt, end_nx])
  exact hq _ (p1.trans (p2.trans (p3.trans (p4.trans (p5.trans p6)))))
theorem sp_order_judged {n : Nat} {s t : List Nat} {S : Store} {Q : D → Store → Prop} {E : Nat → List D → Store → Prop} (hq : ∀ S', Pre S S' → Q (.bl true) S') : Wp (callF LT (n + 7) i_order_judged [.str s, .str t]) S Q E := by
  rw [e_order_judged]
  unfold c_order_judged
  refine wp_def (wp_seq ?_)
  unfold c_order_judged_0
  refine wp_ite ?_
  (try simp only [eq_self, decide_true, decide_false, Bool.not_true, Bool.not_false, true_and, and_true, wp_isi, isK, List.any_cons, List.any_nil, Bool.or_false, Bool.false_or, Bool.or_true, Bool.true_or, setS, retS, exprS, cstE, op1E, op2E, opnE, consA, nilA, valT, andT, orT, notT, iteE, andE, orE, notE, callE, methE, m0, m1, one, skipS, brkS, cntS, raiseS, subS, parS, var0, set0, var1, set1, var2, set2, var3, set3, var4, set4, var5, set5, var6, set6, var7, set7, var8, set8, var9, set9, var10, set10, var11, set11, var12, set12, var13, set13, var14, set14, var15, set15, var16, set16, var17, set17, var18, set18, var19, set19, wp_bnd, wpr, wpe, wp_chk, bndr, bnde, List.append_nil, List.nil_append, List.cons_append, cond_true, cond_false, decide_eq_true_eq, slc_s1, slc_s2, slc_s3, slc_t1, slc_t2, slc_t3, slc_l1, slc_l2, slc_l3, chk_i, sliceE, add_ii, sub_ii, mul_ii, fdiv_ii, mod_ii, pow_ii, eq_ii, ne_ii, lt_ii, le_ii, gt_ii, ge_ii, add_ss, add_tt, mul_si, eq_ss, ne_ss, eq_bb, neg_i, abs_i, int_i, int_b, len_s, len_t, len_k, max_ii, min_ii, tr_b, tr_i, tr_s, tr_n, ie_i, is_i, isnt_i, ie_s, is_s, isnt_s, ie_b, is_b, isnt_b, ie_t, is_t, isnt_t, ie_l, is_l, isnt_l, ie_k, is_k, isnt_k, ie_n, is_n, isnt_n, ie_e, in_ss, nin_ss, sub_si, sub_ti, kst, end_rt, end_nx])
  refine sp_is_order ?_
  (try simp only [eq_self, decide_true, decide_false, Bool.not_true, Bool.not_false, true_and, and_true, wp_isi, isK, List.any_cons, List.any_nil, Bool.or_false, Bool.false_or, Bool.or_true, Bool.true_or, setS, retS, exprS, cstE, op1E, op2E, opnE, consA, nilA, valT, andT, orT, notT, iteE, andE, orE, notE, callE, methE, m0, m1, one, skipS, brkS, cntS, raiseS, subS, parS, var0, set0, var1, set1, var2, set2, var3, set3, var4, set4, var5, set5, var6, set6, var7, set7, var8, set8, var9, set9, var10, set10, var11, set11, var12, set12, var13, set13, var14, set14, var15, set15, var16, set16, var17, set17, var18, set18, var19, set19, wp_bnd, wpr, wpe, wp_chk, bndr, bnde, List.append_nil, List.nil_append, List.cons_append, cond_true, cond_false, decide_eq_true_eq, slc_s1, slc_s2, slc_s3, slc_t1, slc_t2, slc_t3, slc_l1, slc_l2, slc_l3, chk_i, sliceE, add_ii, sub_ii, mul_ii, fdiv_ii, mod_ii, pow_ii, eq_ii, ne_ii, lt_ii, le_ii, gt_ii, ge_ii, add_ss, add_tt, mul_si, eq_ss, ne_ss, eq_bb, neg_i, abs_i, int_i, int_b, len_s, len_t, len_k, max_ii, min_ii, tr_b, tr_i, tr_s, tr_n, ie_i, is_i, isnt_i, ie_s, is_s, isnt_s, ie_b, is_b, isnt_b, ie_t, is_t, isnt_t, ie_l, is_l, isnt_l, ie_k, is_k, isnt_k, ie_n, is_n, isnt_n, ie_e, in_ss, nin_ss, sub_si, sub_ti, kst, end_rt, end_nx])
  refine ⟨fun z => ?_, fun z => wp_seq ?_⟩
  · have ho := ord_of z
    have hlo := ho.lo
    have hhi := ho.hi
    have hm := most_lt hlo hhi
    unfold c_order_judged_1
    have e3 : ([48, 49, 50, 51, 52] : List Nat)[s.length - 1]? = some (48 + (s.length - 1)) := sg_get (w := 5) (k := s.length - 1) (by omega)
    simp only [eq_self, decide_true, decide_false, Bool.not_true, Bool.not_false, true_and, and_true, wp_isi, isK, List.any_cons, List.any_nil, Bool.or_false, Bool.false_or, Bool.or_true, Bool.true_or, setS, retS, exprS, cstE, op1E, op2E, opnE, consA, nilA, valT, andT, orT, notT, iteE, andE, orE, notE, callE, methE, m0, m1, one, skipS, brkS, cntS, raiseS, subS, parS, var0, set0, var1, set1, var2, set2, var3, set3, var4, set4, var5, set5, var6, set6, var7, set7, var8, set8, var9, set9, var10, set10, var11, set11, var12, set12, var13, set13, var14, set14, var15, set15, var16, set16, var17, set17, var18, set18, var19, set19, wp_bnd, wpr, wpe, wp_chk, bndr, bnde, List.append_nil, List.nil_append, List.cons_append, cond_true, cond_false, decide_eq_true_eq, slc_s1, slc_s2, slc_s3, slc_t1, slc_t2, slc_t3, slc_l1, slc_l2, slc_l3, chk_i, sliceE, add_ii, sub_ii, mul_ii, fdiv_ii, mod_ii, pow_ii, eq_ii, ne_ii, lt_ii, le_ii, gt_ii, ge_ii, add_ss, add_tt, mul_si, eq_ss, ne_ss, eq_bb, neg_i, abs_i, int_i, int_b, len_s, len_t, len_k, max_ii, min_ii, tr_b, tr_i, tr_s, tr_n, ie_i, is_i, isnt_i, ie_s, is_s, isnt_s, ie_b, is_b, isnt_b, ie_t, is_t, isnt_t, ie_l, is_l, isnt_l, ie_k, is_k, isnt_k, ie_n, is_n, isnt_n, ie_e, in_ss, nin_ss, sub_si, sub_ti, kst, end_rt, end_nx, show ((s.length : Int) - 1) = ((s.length - 1 : Nat) : Int) by omega, wp_atL e3]
    refine sp_undone ho (okT_iff.mpr ⟨by simp; omega, fun c hc => by rw [List.mem_singleton.mp hc]; omega⟩) fun S' p => ?_
    (try simp only [eq_self, decide_true, decide_false, Bool.not_true, Bool.not_false, true_and, and_true, wp_isi, isK, List.any_cons, List.any_nil, Bool.or_false, Bool.false_or, Bool.or_true, Bool.true_or, setS, retS, exprS, cstE, op1E, op2E, opnE, consA, nilA, valT, andT, orT, notT, iteE, andE, orE, notE, callE, methE, m0, m1, one, skipS, brkS, cntS, raiseS, subS, parS, var0, set0, var1, set1, var2, set2, var3, set3, var4, set4, var5, set5, var6, set6, var7, set7, var8, set8, var9, set9, var10, set10, var11, set11, var12, set12, var13, set13, var14, set14, var15, set15, var16, set16, var17, set17, var18, set18, var19, set19, wp_bnd, wpr, wpe, wp_chk, bndr, bnde, List.append_nil, List.nil_append, List.cons_append, cond_true, cond_false, decide_eq_true_eq, slc_s1, slc_s2, slc_s3, slc_t1, slc_t2, slc_t3, slc_l1, slc_l2, slc_l3, chk_i, sliceE, add_ii, sub_ii, mul_ii, fdiv_ii, mod_ii, pow_ii, eq_ii, ne_ii, lt_ii, le_ii, gt_ii, ge_ii, add_ss, add_tt, mul_si, eq_ss, ne_ss, eq_bb, neg_i, abs_i, int_i, int_b, len_s, len_t, len_k, max_ii, min_ii, tr_b, tr_i, tr_s, tr_n, ie_i, is_i, isnt_i, ie_s, is_s, isnt_s, ie_b, is_b, isnt_b, ie_t, is_t, isnt_t, ie_l, is_l, isnt_l, ie_k, is_k, isnt_k, ie_n, is_n, isnt_n, ie_e, in_ss, nin_ss, sub_si, sub_ti, kst, end_rt, end_nx])
    exact hq _ p
  · unfold c_order_judged_2
    simp only [eq_self, decide_true, decide_false, Bool.not_true, Bool.not_false, true_and, and_true, wp_isi, isK, List.any_cons, List.any_nil, Bool.or_false, Bool.false_or, Bool.or_true, Bool.true_or, setS, retS, exprS, cstE, op1E, op2E, opnE, consA, nilA, valT, andT, orT, notT, iteE, andE, orE, notE, callE, methE, m0, m1, one, skipS, brkS, cntS, raiseS, subS, parS, var0, set0, var1, set1, var2, set2, var3, set3, var4, set4, var5, set5, var6, set6, var7, set7, var8, set8, var9, set9, var10, set10, var11, set11, var12, set12, var13, set13, var14, set14, var15, set15, var16, set16, var17, set17, var18, set18, var19, set19, wp_bnd, wpr, wpe, wp_chk, bndr, bnde, List.append_nil, List.nil_append, List.cons_append, cond_true, cond_false, decide_eq_true_eq, slc_s1, slc_s2, slc_s3, slc_t1, slc_t2, slc_t3, slc_l1, slc_l2, slc_l3, chk_i, sliceE, add_ii, sub_ii, mul_ii, fdiv_ii, mod_ii, pow_ii, eq_ii, ne_ii, lt_ii, le_ii, gt_ii, ge_ii, add_ss, add_tt, mul_si, eq_ss, ne_ss, eq_bb, neg_i, abs_i, int_i, int_b, len_s, len_t, len_k, max_ii, min_ii, tr_b, tr_i, tr_s, tr_n, ie_i, is_i, isnt_i, ie_s, is_s, isnt_s, ie_b, is_b, isnt_b, ie_t, is_t, isnt_t, ie_l, is_l, isnt_l, ie_k, is_k, isnt_k, ie_n, is_n, isnt_n, ie_e, in_ss, nin_ss, sub_si, sub_ti, kst, end_rt, end_nx, wp_mkTup]
    refine ⟨rfl, by simp [SZ], rfl, by simp [SZ], wp_seq ?_⟩
    unfold c_order_judged_3
    refine wp_ite ?_
    (try simp only [eq_self, decide_true, decide_false, Bool.not_true, Bool.not_false, true_and, and_true, wp_isi, isK, List.any_cons, List.any_nil, Bool.or_false, Bool.false_or, Bool.or_true, Bool.true_or, setS, retS, exprS, cstE, op1E, op2E, opnE, consA, nilA, valT, andT, orT, notT, iteE, andE, orE, notE, callE, methE, m0, m1, one, skipS, brkS, cntS, raiseS, subS, parS, var0, set0, var1, set1, var2, set2, var3, set3, var4, set4, var5, set5, var6, set6, var7, set7, var8, set8, var9, set9, var10, set10, var11, set11, var12, set12, var13, set13, var14, set14, var15, set15, var16, set16, var17, set17, var18, set18, var19, set19, wp_bnd, wpr, wpe, wp_chk, bndr, bnde, List.append_nil, List.nil_append, List.cons_append, cond_true, cond_false, decide_eq_true_eq, slc_s1, slc_s2, slc_s3, slc_t1, slc_t2, slc_t3, slc_l1, slc_l2, slc_l3, chk_i, sliceE, add_ii, sub_ii, mul_ii, fdiv_ii, mod_ii, pow_ii, eq_ii, ne_ii, lt_ii, le_ii, gt_ii, ge_ii, add_ss, add_tt, mul_si, eq_ss, ne_ss, eq_bb, neg_i, abs_i, int_i, int_b, len_s, len_t, len_k, max_ii, min_ii, tr_b, tr_i, tr_s, tr_n, ie_i, is_i, isnt_i, ie_s, is_s, isnt_s, ie_b, is_b, isnt_b, ie_t, is_t, isnt_t, ie_l, is_l, isnt_l, ie_k, is_k, isnt_k, ie_n, is_n, isnt_n, ie_e, in_ss, nin_ss, sub_si, sub_ti, kst, end_rt, end_nx])
    refine sp_back_of_no z fun S1 p1 => ?_
    (try simp only [eq_self, decide_true, decide_false, Bool.not_true, Bool.not_false, true_and, and_true, wp_isi, isK, List.any_cons, List.any_nil, Bool.or_false, Bool.false_or, Bool.or_true, Bool.true_or, setS, retS, exprS, cstE, op1E, op2E, opnE, consA, nilA, valT, andT, orT, notT, iteE, andE, orE, notE, callE, methE, m0, m1, one, skipS, brkS, cntS, raiseS, subS, parS, var0, set0, var1, set1, var2, set2, var3, set3, var4, set4, var5, set5, var6, set6, var7, set7, var8, set8, var9, set9, var10, set10, var11, set11, var12, set12, var13, set13, var14, set14, var15, set15, var16, set16, var17, set17, var18, set18, var19, set19, wp_bnd, wpr, wpe, wp_chk, bndr, bnde, List.append_nil, List.nil_append, List.cons_append, cond_true, cond_false, decide_eq_true_eq, slc_s1, slc_s2, slc_s3, slc_t1, slc_t2, slc_t3, slc_l1, slc_l2, slc_l3, chk_i, sliceE, add_ii, sub_ii, mul_ii, fdiv_ii, mod_ii, pow_ii, eq_ii, ne_ii, lt_ii, le_ii, gt_ii, ge_ii, add_ss, add_tt, mul_si, eq_ss, ne_ss, eq_bb, neg_i, abs_i, int_i, int_b, len_s, len_t, len_k, max_ii, min_ii, tr_b, tr_i, tr_s, tr_n, ie_i, is_i, isnt_i, ie_s, is_s, isnt_s, ie_b, is_b, isnt_b, ie_t, is_t, isnt_t, ie_l, is_l, isnt_l, ie_k, is_k, isnt_k, ie_n, is_n, isnt_n, ie_e, in_ss, nin_ss, sub_si, sub_ti, kst, end_rt, end_nx])
    refine same_rr ?_
    (try simp only [eq_self, decide_true, decide_false, Bool.not_true, Bool.not_false, true_and, and_true, wp_isi, isK, List.any_cons, List.any_nil, Bool.or_false, Bool.false_or, Bool.or_true, Bool.true_or, setS, retS, exprS, cstE, op1E, op2E, opnE, consA, nilA, valT, andT, orT, notT, iteE, andE, orE, notE, callE, methE, m0, m1, one, skipS, brkS, cntS, raiseS, subS, parS, var0, set0, var1, set1, var2, set2, var3, set3, var4, set4, var5, set5, var6, set6, var7, set7, var8, set8, var9, set9, var10, set10, var11, set11, var12, set12, var13, set13, var14, set14, var15, set15, var16, set16, var17, set17, var18, set18, var19, set19, wp_bnd, wpr, wpe, wp_chk, bndr, bnde, List.append_nil, List.nil_append, List.cons_append, cond_true, cond_false, decide_eq_true_eq, slc_s1, slc_s2, slc_s3, slc_t1, slc_t2, slc_t3, slc_l1, slc_l2, slc_l3, chk_i, sliceE, add_ii, sub_ii, mul_ii, fdiv_ii, mod_ii, pow_ii, eq_ii, ne_ii, lt_ii, le_ii, gt_ii, ge_ii, add_ss, add_tt, mul_si, eq_ss, ne_ss, eq_bb, neg_i, abs_i, int_i, int_b, len_s, len_t, len_k, max_ii, min_ii, tr_b, tr_i, tr_s, tr_n, ie_i, is_i, isnt_i, ie_s, is_s, isnt_s, ie_b, is_b, isnt_b, ie_t, is_t, isnt_t, ie_l, is_l, isnt_l, ie_k, is_k, isnt_k, ie_n, is_n, isnt_n, ie_e, in_ss, nin_ss, sub_si, sub_ti, kst, end_rt, end_nx])
    refine sp_renamed_by_no z fun S2 p2 => ?_
    (try simp only [eq_self, decide_true, decide_false, Bool.not_true, Bool.not_false, true_and, and_true, wp_isi, isK, List.any_cons, List.any_nil, Bool.or_false, Bool.false_or, Bool.or_true, Bool.true_or, setS, retS, exprS, cstE, op1E, op2E, opnE, consA, nilA, valT, andT, orT, notT, iteE, andE, orE, notE, callE, methE, m0, m1, one, skipS, brkS, cntS, raiseS, subS, parS, var0, set0, var1, set1, var2, set2, var3, set3, var4, set4, var5, set5, var6, set6, var7, set7, var8, set8, var9, set9, var10, set10, var11, set11, var12, set12, var13, set13, var14, set14, var15, set15, var16, set16, var17, set17, var18, set18, var19, set19, wp_bnd, wpr, wpe, wp_chk, bndr, bnde, List.append_nil, List.nil_append, List.cons_append, cond_true, cond_false, decide_eq_true_eq, slc_s1, slc_s2, slc_s3, slc_t1, slc_t2, slc_t3, slc_l1, slc_l2, slc_l3, chk_i, sliceE, add_ii, sub_ii, mul_ii, fdiv_ii, mod_ii, pow_ii, eq_ii, ne_ii, lt_ii, le_ii, gt_ii, ge_ii, add_ss, add_tt, mul_si, eq_ss, ne_ss, eq_bb, neg_i, abs_i, int_i, int_b, len_s, len_t, len_k, max_ii, min_ii, tr_b, tr_i, tr_s, tr_n, ie_i, is_i, isnt_i, ie_s, is_s, isnt_s, ie_b, is_b, isnt_b, ie_t, is_t, isnt_t, ie_l, is_l, isnt_l, ie_k, is_k, isnt_k, ie_n, is_n, isnt_n, ie_e, in_ss, nin_ss, sub_si, sub_ti, kst, end_rt, end_nx])
    refine same_rr ?_
    (try simp only [eq_self, decide_true, decide_false, Bool.not_true, Bool.not_false, true_and, and_true, wp_isi, isK, List.any_cons, List.any_nil, Bool.or_false, Bool.false_or, Bool.or_true, Bool.true_or, setS, retS, exprS, cstE, op1E, op2E, opnE, consA, nilA, valT, andT, orT, notT, iteE, andE, orE, notE, callE, methE, m0, m1, one, skipS, brkS, cntS, raiseS, subS, parS, var0, set0, var1, set1, var2, set2, var3, set3, var4, set4, var5, set5, var6, set6, var7, set7, var8, set8, var9, set9, var10, set10, var11, set11, var12, set12, var13, set13, var14, set14, var15, set15, var16, set16, var17, set17, var18, set18, var19, set19, wp_bnd, wpr, wpe, wp_chk, bndr, bnde, List.append_nil, List.nil_append, List.cons_append, cond_true, cond_false, decide_eq_true_eq, slc_s1, slc_s2, slc_s3, slc_t1, slc_t2, slc_t3, slc_l1, slc_l2, slc_l3, chk_i, sliceE, add_ii, sub_ii, mul_ii, fdiv_ii, mod_ii, pow_ii, eq_ii, ne_ii, lt_ii, le_ii, gt_ii, ge_ii, add_ss, add_tt, mul_si, eq_ss, ne_ss, eq_bb, neg_i, abs_i, int_i, int_b, len_s, len_t, len_k, max_ii, min_ii, tr_b, tr_i, tr_s, tr_n, ie_i, is_i, isnt_i, ie_s, is_s, isnt_s, ie_b, is_b, isnt_b, ie_t, is_t, isnt_t, ie_l, is_l, isnt_l, ie_k, is_k, isnt_k, ie_n, is_n, isnt_n, ie_e, in_ss, nin_ss, sub_si, sub_ti, kst, end_rt, end_nx])
    refine ⟨(fun z => by cases z), fun _ => ?_⟩
    unfold c_order_judged_5
    (try simp only [eq_self, decide_true, decide_false, Bool.not_true, Bool.not_false, true_and, and_true, wp_isi, isK, List.any_cons, List.any_nil, Bool.or_false, Bool.false_or, Bool.or_true, Bool.true_or, setS, retS, exprS, cstE, op1E, op2E, opnE, consA, nilA, valT, andT, orT, notT, iteE, andE, orE, notE, callE, methE, m0, m1, one, skipS, brkS, cntS, raiseS, subS, parS, var0, set0, var1, set1, var2, set2, var3, set3, var4, set4, var5, set5, var6, set6, var7, set7, var8, set8, var9, set9, var10, set10, var11, set11, var12, set12, var13, set13, var14, set14, var15, set15, var16, set16, var17, set17, var18, set18, var19, set19, wp_bnd, wpr, wpe, wp_chk, bndr, bnde, List.append_nil, List.nil_append, List.cons_append, cond_true, cond_false, decide_eq_true_eq, slc_s1, slc_s2, slc_s3, slc_t1, slc_t2, slc_t3, slc_l1, slc_l2, slc_l3, chk_i, sliceE, add_ii, sub_ii, mul_ii, fdiv_ii, mod_ii, pow_ii, eq_ii, ne_ii, lt_ii, le_ii, gt_ii, ge_ii, add_ss, add_tt, mul_si, eq_ss, ne_ss, eq_bb, neg_i, abs_i, int_i, int_b, len_s, len_t, len_k, max_ii, min_ii, tr_b, tr_i, tr_s, tr_n, ie_i, is_i, isnt_i, ie_s, is_s, isnt_s, ie_b, is_b, isnt_b, ie_t, is_t, isnt_t, ie_l, is_l, isnt_l, ie_k, is_k, isnt_k, ie_n, is_n, isnt_n, ie_e, in_ss, nin_ss, sub_si, sub_ti, kst, end_rt, end_nx])
    refine sp_renamed_by_no z fun S3 p3 => ?_
    (try simp only [eq_self, decide_true, decide_false, Bool.not_true, Bool.not_false, true_and, and_true, wp_isi, isK, List.any_cons, List.any_nil, Bool.or_false, Bool.false_or, Bool.or_true, Bool.true_or, setS, retS, exprS, cstE, op1E, op2E, opnE, consA, nilA, valT, andT, orT, notT, iteE, andE, orE, notE, callE, methE, m0, m1, one, skipS, brkS, cntS, raiseS, subS, parS, var0, set0, var1, set1, var2, set2, var3, set3, var4, set4, var5, set5, var6, set6, var7, set7, var8, set8, var9, set9, var10, set10, var11, set11, var12, set12, var13, set13, var14, set14, var15, set15, var16, set16, var17, set17, var18, set18, var19, set19, wp_bnd, wpr, wpe, wp_chk, bndr, bnde, List.append_nil, List.nil_append, List.cons_append, cond_true, cond_false, decide_eq_true_eq, slc_s1, slc_s2, slc_s3, slc_t1, slc_t2, slc_t3, slc_l1, slc_l2, slc_l3, chk_i, sliceE, add_ii, sub_ii, mul_ii, fdiv_ii, mod_ii, pow_ii, eq_ii, ne_ii, lt_ii, le_ii, gt_ii, ge_ii, add_ss, add_tt, mul_si, eq_ss, ne_ss, eq_bb, neg_i, abs_i, int_i, int_b, len_s, len_t, len_k, max_ii, min_ii, tr_b, tr_i, tr_s, tr_n, ie_i, is_i, isnt_i, ie_s, is_s, isnt_s, ie_b, is_b, isnt_b, ie_t, is_t, isnt_t, ie_l, is_l, isnt_l, ie_k, is_k, isnt_k, ie_n, is_n, isnt_n, ie_e, in_ss, nin_ss, sub_si, sub_ti, kst, end_rt, end_nx])
    refine same_rr ?_
    (try simp only [eq_self, decide_true, decide_false, Bool.not_true, Bool.not_false, true_and, and_true, wp_isi, isK, List.any_cons, List.any_nil, Bool.or_false, Bool.false_or, Bool.or_true, Bool.true_or, setS, retS, exprS, cstE, op1E, op2E, opnE, consA, nilA, valT, andT, orT, notT, iteE, andE, orE, notE, callE, methE, m0, m1, one, skipS, brkS, cntS, raiseS, subS, parS, var0, set0, var1, set1, var2, set2, var3, set3, var4, set4, var5, set5, var6, set6, var7, set7, var8, set8, var9, set9, var10, set10, var11, set11, var12, set12, var13, set13, var14, set14, var15, set15, var16, set16, var17, set17, var18, set18, var19, set19, wp_bnd, wpr, wpe, wp_chk, bndr, bnde, List.append_nil, List.nil_append, List.cons_append, cond_true, cond_false, decide_eq_true_eq, slc_s1, slc_s2, slc_s3, slc_t1, slc_t2, slc_t3, slc_l1, slc_l2, slc_l3, chk_i, sliceE, add_ii, sub_ii, mul_ii, fdiv_ii, mod_ii, pow_ii, eq_ii, ne_ii, lt_ii, le_ii, gt_ii, ge_ii, add_ss, add_tt, mul_si, eq_ss, ne_ss, eq_bb, neg_i, abs_i, int_i, int_b, len_s, len_t, len_k, max_ii, min_ii, tr_b, tr_i, tr_s, tr_n, ie_i, is_i, isnt_i, ie_s, is_s, isnt_s, ie_b, is_b, isnt_b, ie_t, is_t, isnt_t, ie_l, is_l, isnt_l, ie_k, is_k, isnt_k, ie_n, is_n, isnt_n, ie_e, in_ss, nin_ss, sub_si, sub_ti, kst, end_rt, end_nx])
    exact hq _ (p1.trans (p2.trans p3))
theorem sp_joint {n w : Nat} {o p t : List Nat} {S : Store} {Q : D → Store → Prop} {E : Nat → List D → Store → Prop} (ho : Ord w o) (hp : Ord w p) (ht : okT w (most w) t = true) (hq : ∀ S', Pre S S' → Q (.bl true) S') : Wp (callF LT (n + 6) i_joint [.str o, .str p, .str t]) S Q E := by
  have ht2 := okT_iff.mp ht
  have hi5 := ho.hi
  have no : okT w (most w) t = false → False := fun z => by rw [ht] at z; cases z
  have ok1 : okT w (most w) (rn o t) = true := okT_iff.mpr ⟨by rw [rn_len]; exact ht2.1, ho.rn_tx ht2.2⟩
  rw [e_joint]
  unfold c_joint
  refine wp_def (wp_seq ?_)
  unfold c_joint_0
  (try simp only [eq_self, decide_true, decide_false, Bool.not_true, Bool.not_false, true_and, and_true, wp_isi, isK, List.any_cons, List.any_nil, Bool.or_false, Bool.false_or, Bool.or_true, Bool.true_or, setS, retS, exprS, cstE, op1E, op2E, opnE, consA, nilA, valT, andT, orT, notT, iteE, andE, orE, notE, callE, methE, m0, m1, one, skipS, brkS, cntS, raiseS, subS, parS, var0, set0, var1, set1, var2, set2, var3, set3, var4, set4, var5, set5, var6, set6, var7, set7, var8, set8, var9, set9, var10, set10, var11, set11, var12, set12, var13, set13, var14, set14, var15, set15, var16, set16, var17, set17, var18, set18, var19, set19, wp_bnd, wpr, wpe, wp_chk, bndr, bnde, List.append_nil, List.nil_append, List.cons_append, cond_true, cond_false, decide_eq_true_eq, slc_s1, slc_s2, slc_s3, slc_t1, slc_t2, slc_t3, slc_l1, slc_l2, slc_l3, chk_i, sliceE, add_ii, sub_ii, mul_ii, fdiv_ii, mod_ii, pow_ii, eq_ii, ne_ii, lt_ii, le_ii, gt_ii, ge_ii, add_ss, add_tt, mul_si, eq_ss, ne_ss, eq_bb, neg_i, abs_i, int_i, int_b, len_s, len_t, len_k, max_ii, min_ii, tr_b, tr_i, tr_s, tr_n, ie_i, is_i, isnt_i, ie_s, is_s, isnt_s, ie_b, is_b, isnt_b, ie_t, is_t, isnt_t, ie_l, is_l, isnt_l, ie_k, is_k, isnt_k, ie_n, is_n, isnt_n, ie_e, in_ss, nin_ss, sub_si, sub_ti, kst, end_rt, end_nx])
  have e1 : (sgs o).map (onC fun c => p.getD (c - 48) 0) = sgs (rn p o) := sgs_map fun c _ => rfl
  refine wp_mapI (xs := sgs o) (onC fun c => p.getD (c - 48) 0) ?_ (noExc_sgs _) (by rw [sgs, List.length_map, ho.len]; show _ ≤ 16777216; omega) (by rw [e1]; exact noExc_sgs _) (fun d hd S' _ => ?_) ?_
  · simp only [eq_self, decide_true, decide_false, Bool.not_true, Bool.not_false, true_and, and_true, wp_isi, isK, List.any_cons, List.any_nil, Bool.or_false, Bool.false_or, Bool.or_true, Bool.true_or, setS, retS, exprS, cstE, op1E, op2E, opnE, consA, nilA, valT, andT, orT, notT, iteE, andE, orE, notE, callE, methE, m0, m1, one, skipS, brkS, cntS, raiseS, subS, parS, var0, set0, var1, set1, var2, set2, var3, set3, var4, set4, var5, set5, var6, set6, var7, set7, var8, set8, var9, set9, var10, set10, var11, set11, var12, set12, var13, set13, var14, set14, var15, set15, var16, set16, var17, set17, var18, set18, var19, set19, wp_bnd, wpr, wpe, wp_chk, bndr, bnde, List.append_nil, List.nil_append, List.cons_append, cond_true, cond_false, decide_eq_true_eq, slc_s1, slc_s2, slc_s3, slc_t1, slc_t2, slc_t3, slc_l1, slc_l2, slc_l3, chk_i, sliceE, add_ii, sub_ii, mul_ii, fdiv_ii, mod_ii, pow_ii, eq_ii, ne_ii, lt_ii, le_ii, gt_ii, ge_ii, add_ss, add_tt, mul_si, eq_ss, ne_ss, eq_bb, neg_i, abs_i, int_i, int_b, len_s, len_t, len_k, max_ii, min_ii, tr_b, tr_i, tr_s, tr_n, ie_i, is_i, isnt_i, ie_s, is_s, isnt_s, ie_b, is_b, isnt_b, ie_t, is_t, isnt_t, ie_l, is_l, isnt_l, ie_k, is_k, isnt_k, ie_n, is_n, isnt_n, ie_e, in_ss, nin_ss, sub_si, sub_ti, kst, end_rt, end_nx, seqI]
    exact it_str
  · obtain ⟨c, hc, e⟩ := mem_sgs hd
    subst e
    have hc := ho.mem.mp hc
    obtain ⟨y, hy, q⟩ := hp.get (k := c - 48) (by omega)
    simp only [eq_self, decide_true, decide_false, Bool.not_true, Bool.not_false, true_and, and_true, wp_isi, isK, List.any_cons, List.any_nil, Bool.or_false, Bool.false_or, Bool.or_true, Bool.true_or, setS, retS, exprS, cstE, op1E, op2E, opnE, consA, nilA, valT, andT, orT, notT, iteE, andE, orE, notE, callE, methE, m0, m1, one, skipS, brkS, cntS, raiseS, subS, parS, var0, set0, var1, set1, var2, set2, var3, set3, var4, set4, var5, set5, var6, set6, var7, set7, var8, set8, var9, set9, var10, set10, var11, set11, var12, set12, var13, set13, var14, set14, var15, set15, var16, set16, var17, set17, var18, set18, var19, set19, wp_bnd, wpr, wpe, wp_chk, bndr, bnde, List.append_nil, List.nil_append, List.cons_append, cond_true, cond_false, decide_eq_true_eq, slc_s1, slc_s2, slc_s3, slc_t1, slc_t2, slc_t3, slc_l1, slc_l2, slc_l3, chk_i, sliceE, add_ii, sub_ii, mul_ii, fdiv_ii, mod_ii, pow_ii, eq_ii, ne_ii, lt_ii, le_ii, gt_ii, ge_ii, add_ss, add_tt, mul_si, eq_ss, ne_ss, eq_bb, neg_i, abs_i, int_i, int_b, len_s, len_t, len_k, max_ii, min_ii, tr_b, tr_i, tr_s, tr_n, ie_i, is_i, isnt_i, ie_s, is_s, isnt_s, ie_b, is_b, isnt_b, ie_t, is_t, isnt_t, ie_l, is_l, isnt_l, ie_k, is_k, isnt_k, ie_n, is_n, isnt_n, ie_e, in_ss, nin_ss, sub_si, sub_ti, kst, end_rt, end_nx, forget, List.set, int_1 (show 48 ≤ c ∧ c < 58 by omega), wp_atL q]
    exact congrArg (fun z => D.str [z]) (getD_of q).symm
  rw [e1]
  (try simp only [eq_self, decide_true, decide_false, Bool.not_true, Bool.not_false, true_and, and_true, wp_isi, isK, List.any_cons, List.any_nil, Bool.or_false, Bool.false_or, Bool.or_true, Bool.true_or, setS, retS, exprS, cstE, op1E, op2E, opnE, consA, nilA, valT, andT, orT, notT, iteE, andE, orE, notE, callE, methE, m0, m1, one, skipS, brkS, cntS, raiseS, subS, parS, var0, set0, var1, set1, var2, set2, var3, set3, var4, set4, var5, set5, var6, set6, var7, set7, var8, set8, var9, set9, var10, set10, var11, set11, var12, set12, var13, set13, var14, set14, var15, set15, var16, set16, var17, set17, var18, set18, var19, set19, wp_bnd, wpr, wpe, wp_chk, bndr, bnde, List.append_nil, List.nil_append, List.cons_append, cond_true, cond_false, decide_eq_true_eq, slc_s1, slc_s2, slc_s3, slc_t1, slc_t2, slc_t3, slc_l1, slc_l2, slc_l3, chk_i, sliceE, add_ii, sub_ii, mul_ii, fdiv_ii, mod_ii, pow_ii, eq_ii, ne_ii, lt_ii, le_ii, gt_ii, ge_ii, add_ss, add_tt, mul_si, eq_ss, ne_ss, eq_bb, neg_i, abs_i, int_i, int_b, len_s, len_t, len_k, max_ii, min_ii, tr_b, tr_i, tr_s, tr_n, ie_i, is_i, isnt_i, ie_s, is_s, isnt_s, ie_b, is_b, isnt_b, ie_t, is_t, isnt_t, ie_l, is_l, isnt_l, ie_k, is_k, isnt_k, ie_n, is_n, isnt_n, ie_e, in_ss, nin_ss, sub_si, sub_ti, kst, end_rt, end_nx])
  refine wp_join0 at_new (by rw [rn_len, ho.len]; show _ ≤ 16777216; omega) ?_
  have p0 : Pre S (S ++ [Ob.lst true (sgs (rn p o))]) := .app
  (try simp only [eq_self, decide_true, decide_false, Bool.not_true, Bool.not_false, true_and, and_true, wp_isi, isK, List.any_cons, List.any_nil, Bool.or_false, Bool.false_or, Bool.or_true, Bool.true_or, setS, retS, exprS, cstE, op1E, op2E, opnE, consA, nilA, valT, andT, orT, notT, iteE, andE, orE, notE, callE, methE, m0, m1, one, skipS, brkS, cntS, raiseS, subS, parS, var0, set0, var1, set1, var2, set2, var3, set3, var4, set4, var5, set5, var6, set6, var7, set7, var8, set8, var9, set9, var10, set10, var11, set11, var12, set12, var13, set13, var14, set14, var15, set15, var16, set16, var17, set17, var18, set18, var19, set19, wp_bnd, wpr, wpe, wp_chk, bndr, bnde, List.append_nil, List.nil_append, List.cons_append, cond_true, cond_false, decide_eq_true_eq, slc_s1, slc_s2, slc_s3, slc_t1, slc_t2, slc_t3, slc_l1, slc_l2, slc_l3, chk_i, sliceE, add_ii, sub_ii, mul_ii, fdiv_ii, mod_ii, pow_ii, eq_ii, ne_ii, lt_ii, le_ii, gt_ii, ge_ii, add_ss, add_tt, mul_si, eq_ss, ne_ss, eq_bb, neg_i, abs_i, int_i, int_b, len_s, len_t, len_k, max_ii, min_ii, tr_b, tr_i, tr_s, tr_n, ie_i, is_i, isnt_i, ie_s, is_s, isnt_s, ie_b, is_b, isnt_b, ie_t, is_t, isnt_t, ie_l, is_l, isnt_l, ie_k, is_k, isnt_k, ie_n, is_n, isnt_n, ie_e, in_ss, nin_ss, sub_si, sub_ti, kst, end_rt, end_nx])
  refine wp_seq ?_
  unfold c_joint_1
  (try simp only [eq_self, decide_true, decide_false, Bool.not_true, Bool.not_false, true_and, and_true, wp_isi, isK, List.any_cons, List.any_nil, Bool.or_false, Bool.false_or, Bool.or_true, Bool.true_or, setS, retS, exprS, cstE, op1E, op2E, opnE, consA, nilA, valT, andT, orT, notT, iteE, andE, orE, notE, callE, methE, m0, m1, one, skipS, brkS, cntS, raiseS, subS, parS, var0, set0, var1, set1, var2, set2, var3, set3, var4, set4, var5, set5, var6, set6, var7, set7, var8, set8, var9, set9, var10, set10, var11, set11, var12, set12, var13, set13, var14, set14, var15, set15, var16, set16, var17, set17, var18, set18, var19, set19, wp_bnd, wpr, wpe, wp_chk, bndr, bnde, List.append_nil, List.nil_append, List.cons_append, cond_true, cond_false, decide_eq_true_eq, slc_s1, slc_s2, slc_s3, slc_t1, slc_t2, slc_t3, slc_l1, slc_l2, slc_l3, chk_i, sliceE, add_ii, sub_ii, mul_ii, fdiv_ii, mod_ii, pow_ii, eq_ii, ne_ii, lt_ii, le_ii, gt_ii, ge_ii, add_ss, add_tt, mul_si, eq_ss, ne_ss, eq_bb, neg_i, abs_i, int_i, int_b, len_s, len_t, len_k, max_ii, min_ii, tr_b, tr_i, tr_s, tr_n, ie_i, is_i, isnt_i, ie_s, is_s, isnt_s, ie_b, is_b, isnt_b, ie_t, is_t, isnt_t, ie_l, is_l, isnt_l, ie_k, is_k, isnt_k, ie_n, is_n, isnt_n, ie_e, in_ss, nin_ss, sub_si, sub_ti, kst, end_rt, end_nx])
  refine sp_renamed_by ho (fun _ S1 p1 => ?_) fun z => (no z).elim
  (try simp only [eq_self, decide_true, decide_false, Bool.not_true, Bool.not_false, true_and, and_true, wp_isi, isK, List.any_cons, List.any_nil, Bool.or_false, Bool.false_or, Bool.or_true, Bool.true_or, setS, retS, exprS, cstE, op1E, op2E, opnE, consA, nilA, valT, andT, orT, notT, iteE, andE, orE, notE, callE, methE, m0, m1, one, skipS, brkS, cntS, raiseS, subS, parS, var0, set0, var1, set1, var2, set2, var3, set3, var4, set4, var5, set5, var6, set6, var7, set7, var8, set8, var9, set9, var10, set10, var11, set11, var12, set12, var13, set13, var14, set14, var15, set15, var16, set16, var17, set17, var18, set18, var19, set19, wp_bnd, wpr, wpe, wp_chk, bndr, bnde, List.append_nil, List.nil_append, List.cons_append, cond_true, cond_false, decide_eq_true_eq, slc_s1, slc_s2, slc_s3, slc_t1, slc_t2, slc_t3, slc_l1, slc_l2, slc_l3, chk_i, sliceE, add_ii, sub_ii, mul_ii, fdiv_ii, mod_ii, pow_ii, eq_ii, ne_ii, lt_ii, le_ii, gt_ii, ge_ii, add_ss, add_tt, mul_si, eq_ss, ne_ss, eq_bb, neg_i, abs_i, int_i, int_b, len_s, len_t, len_k, max_ii, min_ii, tr_b, tr_i, tr_s, tr_n, ie_i, is_i, isnt_i, ie_s, is_s, isnt_s, ie_b, is_b, isnt_b, ie_t, is_t, isnt_t, ie_l, is_l, isnt_l, ie_k, is_k, isnt_k, ie_n, is_n, isnt_n, ie_e, in_ss, nin_ss, sub_si, sub_ti, kst, end_rt, end_nx])
  refine wp_seq ?_
  unfold c_joint_2
  refine wp_ite ?_
  have g0 : ∀ (d : D), atL [(D.str [116, 111, 108, 100]), d] 0 = ret (D.str [116, 111, 108, 100]) := fun _ => rfl
  have g1 : ∀ (d : D), atL [(D.str [116, 111, 108, 100]), d] 1 = ret d := fun _ => rfl
  simp only [eq_self, decide_true, decide_false, Bool.not_true, Bool.not_false, true_and, and_true, wp_isi, isK, List.any_cons, List.any_nil, Bool.or_false, Bool.false_or, Bool.or_true, Bool.true_or, setS, retS, exprS, cstE, op1E, op2E, opnE, consA, nilA, valT, andT, orT, notT, iteE, andE, orE, notE, callE, methE, m0, m1, one, skipS, brkS, cntS, raiseS, subS, parS, var0, set0, var1, set1, var2, set2, var3, set3, var4, set4, var5, set5, var6, set6, var7, set7, var8, set8, var9, set9, var10, set10, var11, set11, var12, set12, var13, set13, var14, set14, var15, set15, var16, set16, var17, set17, var18, set18, var19, set19, wp_bnd, wpr, wpe, wp_chk, bndr, bnde, List.append_nil, List.nil_append, List.cons_append, cond_true, cond_false, decide_eq_true_eq, slc_s1, slc_s2, slc_s3, slc_t1, slc_t2, slc_t3, slc_l1, slc_l2, slc_l3, chk_i, sliceE, add_ii, sub_ii, mul_ii, fdiv_ii, mod_ii, pow_ii, eq_ii, ne_ii, lt_ii, le_ii, gt_ii, ge_ii, add_ss, add_tt, mul_si, eq_ss, ne_ss, eq_bb, neg_i, abs_i, int_i, int_b, len_s, len_t, len_k, max_ii, min_ii, tr_b, tr_i, tr_s, tr_n, ie_i, is_i, isnt_i, ie_s, is_s, isnt_s, ie_b, is_b, isnt_b, ie_t, is_t, isnt_t, ie_l, is_l, isnt_l, ie_k, is_k, isnt_k, ie_n, is_n, isnt_n, ie_e, in_ss, nin_ss, sub_si, sub_ti, kst, end_rt, end_nx, g0]
  refine ⟨(fun z => by cases z), fun _ => ?_⟩
  unfold c_joint_4
  simp only [eq_self, decide_true, decide_false, Bool.not_true, Bool.not_false, true_and, and_true, wp_isi, isK, List.any_cons, List.any_nil, Bool.or_false, Bool.false_or, Bool.or_true, Bool.true_or, setS, retS, exprS, cstE, op1E, op2E, opnE, consA, nilA, valT, andT, orT, notT, iteE, andE, orE, notE, callE, methE, m0, m1, one, skipS, brkS, cntS, raiseS, subS, parS, var0, set0, var1, set1, var2, set2, var3, set3, var4, set4, var5, set5, var6, set6, var7, set7, var8, set8, var9, set9, var10, set10, var11, set11, var12, set12, var13, set13, var14, set14, var15, set15, var16, set16, var17, set17, var18, set18, var19, set19, wp_bnd, wpr, wpe, wp_chk, bndr, bnde, List.append_nil, List.nil_append, List.cons_append, cond_true, cond_false, decide_eq_true_eq, slc_s1, slc_s2, slc_s3, slc_t1, slc_t2, slc_t3, slc_l1, slc_l2, slc_l3, chk_i, sliceE, add_ii, sub_ii, mul_ii, fdiv_ii, mod_ii, pow_ii, eq_ii, ne_ii, lt_ii, le_ii, gt_ii, ge_ii, add_ss, add_tt, mul_si, eq_ss, ne_ss, eq_bb, neg_i, abs_i, int_i, int_b, len_s, len_t, len_k, max_ii, min_ii, tr_b, tr_i, tr_s, tr_n, ie_i, is_i, isnt_i, ie_s, is_s, isnt_s, ie_b, is_b, isnt_b, ie_t, is_t, isnt_t, ie_l, is_l, isnt_l, ie_k, is_k, isnt_k, ie_n, is_n, isnt_n, ie_e, in_ss, nin_ss, sub_si, sub_ti, kst, end_rt, end_nx, g1]
  refine sp_renamed_by hp (fun _ S2 p2 => ?_) fun z => by rw [ok1] at z; cases z
  (try simp only [eq_self, decide_true, decide_false, Bool.not_true, Bool.not_false, true_and, and_true, wp_isi, isK, List.any_cons, List.any_nil, Bool.or_false, Bool.false_or, Bool.or_true, Bool.true_or, setS, retS, exprS, cstE, op1E, op2E, opnE, consA, nilA, valT, andT, orT, notT, iteE, andE, orE, notE, callE, methE, m0, m1, one, skipS, brkS, cntS, raiseS, subS, parS, var0, set0, var1, set1, var2, set2, var3, set3, var4, set4, var5, set5, var6, set6, var7, set7, var8, set8, var9, set9, var10, set10, var11, set11, var12, set12, var13, set13, var14, set14, var15, set15, var16, set16, var17, set17, var18, set18, var19, set19, wp_bnd, wpr, wpe, wp_chk, bndr, bnde, List.append_nil, List.nil_append, List.cons_append, cond_true, cond_false, decide_eq_true_eq, slc_s1, slc_s2, slc_s3, slc_t1, slc_t2, slc_t3, slc_l1, slc_l2, slc_l3, chk_i, sliceE, add_ii, sub_ii, mul_ii, fdiv_ii, mod_ii, pow_ii, eq_ii, ne_ii, lt_ii, le_ii, gt_ii, ge_ii, add_ss, add_tt, mul_si, eq_ss, ne_ss, eq_bb, neg_i, abs_i, int_i, int_b, len_s, len_t, len_k, max_ii, min_ii, tr_b, tr_i, tr_s, tr_n, ie_i, is_i, isnt_i, ie_s, is_s, isnt_s, ie_b, is_b, isnt_b, ie_t, is_t, isnt_t, ie_l, is_l, isnt_l, ie_k, is_k, isnt_k, ie_n, is_n, isnt_n, ie_e, in_ss, nin_ss, sub_si, sub_ti, kst, end_rt, end_nx])
  refine sp_renamed_by (ho.joint hp) (fun _ S3 p3 => ?_) fun z => (no z).elim
  rw [ho.rnrn ht2.2]
  (try simp only [eq_self, decide_true, decide_false, Bool.not_true, Bool.not_false, true_and, and_true, wp_isi, isK, List.any_cons, List.any_nil, Bool.or_false, Bool.false_or, Bool.or_true, Bool.true_or, setS, retS, exprS, cstE, op1E, op2E, opnE, consA, nilA, valT, andT, orT, notT, iteE, andE, orE, notE, callE, methE, m0, m1, one, skipS, brkS, cntS, raiseS, subS, parS, var0, set0, var1, set1, var2, set2, var3, set3, var4, set4, var5, set5, var6, set6, var7, set7, var8, set8, var9, set9, var10, set10, var11, set11, var12, set12, var13, set13, var14, set14, var15, set15, var16, set16, var17, set17, var18, set18, var19, set19, wp_bnd, wpr, wpe, wp_chk, bndr, bnde, List.append_nil, List.nil_append, List.cons_append, cond_true, cond_false, decide_eq_true_eq, slc_s1, slc_s2, slc_s3, slc_t1, slc_t2, slc_t3, slc_l1, slc_l2, slc_l3, chk_i, sliceE, add_ii, sub_ii, mul_ii, fdiv_ii, mod_ii, pow_ii, eq_ii, ne_ii, lt_ii, le_ii, gt_ii, ge_ii, add_ss, add_tt, mul_si, eq_ss, ne_ss, eq_bb, neg_i, abs_i, int_i, int_b, len_s, len_t, len_k, max_ii, min_ii, tr_b, tr_i, tr_s, tr_n, ie_i, is_i, isnt_i, ie_s, is_s, isnt_s, ie_b, is_b, isnt_b, ie_t, is_t, isnt_t, ie_l, is_l, isnt_l, ie_k, is_k, isnt_k, ie_n, is_n, isnt_n, ie_e, in_ss, nin_ss, sub_si, sub_ti, kst, end_rt, end_nx])
  refine same_ts ?_
  (try simp only [eq_self, decide_true, decide_false, Bool.not_true, Bool.not_false, true_and, and_true, wp_isi, isK, List.any_cons, List.any_nil, Bool.or_false, Bool.false_or, Bool.or_true, Bool.true_or, setS, retS, exprS, cstE, op1E, op2E, opnE, consA, nilA, valT, andT, orT, notT, iteE, andE, orE, notE, callE, methE, m0, m1, one, skipS, brkS, cntS, raiseS, subS, parS, var0, set0, var1, set1, var2, set2, var3, set3, var4, set4, var5, set5, var6, set6, var7, set7, var8, set8, var9, set9, var10, set10, var11, set11, var12, set12, var13, set13, var14, set14, var15, set15, var16, set16, var17, set17, var18, set18, var19, set19, wp_bnd, wpr, wpe, wp_chk, bndr, bnde, List.append_nil, List.nil_append, List.cons_append, cond_true, cond_false, decide_eq_true_eq, slc_s1, slc_s2, slc_s3, slc_t1, slc_t2, slc_t3, slc_l1, slc_l2, slc_l3, chk_i, sliceE, add_ii, sub_ii, mul_ii, fdiv_ii, mod_ii, pow_ii, eq_ii, ne_ii, lt_ii, le_ii, gt_ii, ge_ii, add_ss, add_tt, mul_si, eq_ss, ne_ss, eq_bb, neg_i, abs_i, int_i, int_b, len_s, len_t, len_k, max_ii, min_ii, tr_b, tr_i, tr_s, tr_n, ie_i, is_i, isnt_i, ie_s, is_s, isnt_s, ie_b, is_b, isnt_b, ie_t, is_t, isnt_t, ie_l, is_l, isnt_l, ie_k, is_k, isnt_k, ie_n, is_n, isnt_n, ie_e, in_ss, nin_ss, sub_si, sub_ti, kst, end_rt, end_nx])
  exact hq _ (p0.trans (p1.trans (p2.trans p3)))

/-! ### the law: drawing -/
theorem sp_free2 {n L N : Nat} {s : List Nat} {k : Int} {S : Store} {Q : D → Store → Prop} {E : Nat → List D → Store → Prop} (h : StO L N S) (h0 : 0 < s.length) (h1 : s.length ≤ 1000) (hk : 0 ≤ k ∧ k ≤ 100) (hq : ∀ w S', w.length = k.toNat → (∀ c, c ∈ w → c ∈ s) → Ok L N S S' → Q (.str w) S') : Wp (callF LT (n + 3) i_free [.loc L, .str s, .int k]) S Q E := by
  rw [e_free]
  unfold c_free
  refine wp_def (wp_seq ?_)
  unfold c_free_0
  simp only [eq_self, decide_true, decide_false, Bool.not_true, Bool.not_false, true_and, and_true, wp_isi, isK, List.any_cons, List.any_nil, Bool.or_false, Bool.false_or, Bool.or_true, Bool.true_or, setS, retS, exprS, cstE, op1E, op2E, opnE, consA, nilA, valT, andT, orT, notT, iteE, andE, orE, notE, callE, methE, m0, m1, one, skipS, brkS, cntS, raiseS, subS, parS, var0, set0, var1, set1, var2, set2, var3, set3, var4, set4, var5, set5, var6, set6, var7, set7, var8, set8, var9, set9, var10, set10, var11, set11, var12, set12, var13, set13, var14, set14, var15, set15, var16, set16, var17, set17, var18, set18, var19, set19, wp_bnd, wpr, wpe, wp_chk, bndr, bnde, List.append_nil, List.nil_append, List.cons_append, cond_true, cond_false, decide_eq_true_eq, slc_s1, slc_s2, slc_s3, slc_t1, slc_t2, slc_t3, slc_l1, slc_l2, slc_l3, chk_i, sliceE, add_ii, sub_ii, mul_ii, fdiv_ii, mod_ii, pow_ii, eq_ii, ne_ii, lt_ii, le_ii, gt_ii, ge_ii, add_ss, add_tt, mul_si, eq_ss, ne_ss, eq_bb, neg_i, abs_i, int_i, int_b, len_s, len_t, len_k, max_ii, min_ii, tr_b, tr_i, tr_s, tr_n, ie_i, is_i, isnt_i, ie_s, is_s, isnt_s, ie_b, is_b, isnt_b, ie_t, is_t, isnt_t, ie_l, is_l, isnt_l, ie_k, is_k, isnt_k, ie_n, is_n, isnt_n, ie_e, in_ss, nin_ss, sub_si, sub_ti, kst, end_rt, end_nx]
  refine wp_seq ?_
  unfold c_free_1
  refine wp_forR ?_
  simp only [eq_self, decide_true, decide_false, Bool.not_true, Bool.not_false, true_and, and_true, wp_isi, isK, List.any_cons, List.any_nil, Bool.or_false, Bool.false_or, Bool.or_true, Bool.true_or, setS, retS, exprS, cstE, op1E, op2E, opnE, consA, nilA, valT, andT, orT, notT, iteE, andE, orE, notE, callE, methE, m0, m1, one, skipS, brkS, cntS, raiseS, subS, parS, var0, set0, var1, set1, var2, set2, var3, set3, var4, set4, var5, set5, var6, set6, var7, set7, var8, set8, var9, set9, var10, set10, var11, set11, var12, set12, var13, set13, var14, set14, var15, set15, var16, set16, var17, set17, var18, set18, var19, set19, wp_bnd, wpr, wpe, wp_chk, bndr, bnde, List.append_nil, List.nil_append, List.cons_append, cond_true, cond_false, decide_eq_true_eq, slc_s1, slc_s2, slc_s3, slc_t1, slc_t2, slc_t3, slc_l1, slc_l2, slc_l3, chk_i, sliceE, add_ii, sub_ii, mul_ii, fdiv_ii, mod_ii, pow_ii, eq_ii, ne_ii, lt_ii, le_ii, gt_ii, ge_ii, add_ss, add_tt, mul_si, eq_ss, ne_ss, eq_bb, neg_i, abs_i, int_i, int_b, len_s, len_t, len_k, max_ii, min_ii, tr_b, tr_i, tr_s, tr_n, ie_i, is_i, isnt_i, ie_s, is_s, isnt_s, ie_b, is_b, isnt_b, ie_t, is_t, isnt_t, ie_l, is_l, isnt_l, ie_k, is_k, isnt_k, ie_n, is_n, isnt_n, ie_e, in_ss, nin_ss, sub_si, sub_ti, kst, end_rt, end_nx]
  refine ⟨_, rfl, ?_, wp_rgGo (fun i δ S' => Ok L N S S' ∧ ∃ w x, w.length = i ∧ (∀ c, c ∈ w → c ∈ s) ∧ δ = [some (.loc L), some (.str s), some (.int k), some (.str w), x]) ⟨.refl h, [], _, rfl, (fun _ h => by cases h), rfl⟩ (fun i δ S' hi ⟨ok, w, x, ew, hw, eδ⟩ => ?_) (fun δ S' ⟨ok, w, x, ew, hw, eδ⟩ => ?_)⟩
  · unfold rgOk
    rw [Bool.and_eq_true]
    exact ⟨decide_eq_true (by omega), decide_eq_true (by omega)⟩
  · subst eδ
    unfold c_free_2
    simp only [eq_self, decide_true, decide_false, Bool.not_true, Bool.not_false, true_and, and_true, wp_isi, isK, List.any_cons, List.any_nil, Bool.or_false, Bool.false_or, Bool.or_true, Bool.true_or, setS, retS, exprS, cstE, op1E, op2E, opnE, consA, nilA, valT, andT, orT, notT, iteE, andE, orE, notE, callE, methE, m0, m1, one, skipS, brkS, cntS, raiseS, subS, parS, var0, set0, var1, set1, var2, set2, var3, set3, var4, set4, var5, set5, var6, set6, var7, set7, var8, set8, var9, set9, var10, set10, var11, set11, var12, set12, var13, set13, var14, set14, var15, set15, var16, set16, var17, set17, var18, set18, var19, set19, wp_bnd, wpr, wpe, wp_chk, bndr, bnde, List.append_nil, List.nil_append, List.cons_append, cond_true, cond_false, decide_eq_true_eq, slc_s1, slc_s2, slc_s3, slc_t1, slc_t2, slc_t3, slc_l1, slc_l2, slc_l3, chk_i, sliceE, add_ii, sub_ii, mul_ii, fdiv_ii, mod_ii, pow_ii, eq_ii, ne_ii, lt_ii, le_ii, gt_ii, ge_ii, add_ss, add_tt, mul_si, eq_ss, ne_ss, eq_bb, neg_i, abs_i, int_i, int_b, len_s, len_t, len_k, max_ii, min_ii, tr_b, tr_i, tr_s, tr_n, ie_i, is_i, isnt_i, ie_s, is_s, isnt_s, ie_b, is_b, isnt_b, ie_t, is_t, isnt_t, ie_l, is_l, isnt_l, ie_k, is_k, isnt_k, ie_n, is_n, isnt_n, ie_e, in_ss, nin_ss, sub_si, sub_ti, kst, end_rt, end_nx, List.set]
    refine sp_take ok.1 (by omega) fun r S1 hr st ex => wp_sign hr (Int.le_refl _) h0 fun c hc => ?_
    simp only [eq_self, decide_true, decide_false, Bool.not_true, Bool.not_false, true_and, and_true, wp_isi, isK, List.any_cons, List.any_nil, Bool.or_false, Bool.false_or, Bool.or_true, Bool.true_or, setS, retS, exprS, cstE, op1E, op2E, opnE, consA, nilA, valT, andT, orT, notT, iteE, andE, orE, notE, callE, methE, m0, m1, one, skipS, brkS, cntS, raiseS, subS, parS, var0, set0, var1, set1, var2, set2, var3, set3, var4, set4, var5, set5, var6, set6, var7, set7, var8, set8, var9, set9, var10, set10, var11, set11, var12, set12, var13, set13, var14, set14, var15, set15, var16, set16, var17, set17, var18, set18, var19, set19, wp_bnd, wpr, wpe, wp_chk, bndr, bnde, List.append_nil, List.nil_append, List.cons_append, cond_true, cond_false, decide_eq_true_eq, slc_s1, slc_s2, slc_s3, slc_t1, slc_t2, slc_t3, slc_l1, slc_l2, slc_l3, chk_i, sliceE, add_ii, sub_ii, mul_ii, fdiv_ii, mod_ii, pow_ii, eq_ii, ne_ii, lt_ii, le_ii, gt_ii, ge_ii, add_ss, add_tt, mul_si, eq_ss, ne_ss, eq_bb, neg_i, abs_i, int_i, int_b, len_s, len_t, len_k, max_ii, min_ii, tr_b, tr_i, tr_s, tr_n, ie_i, is_i, isnt_i, ie_s, is_s, isnt_s, ie_b, is_b, isnt_b, ie_t, is_t, isnt_t, ie_l, is_l, isnt_l, ie_k, is_k, isnt_k, ie_n, is_n, isnt_n, ie_e, in_ss, nin_ss, sub_si, sub_ti, kst, end_rt, end_nx]
    refine ⟨by rw [ew, List.length_singleton]; show _ ≤ 16777216; omega, ok.trans ⟨st, ex⟩, _, _, by rw [List.length_append, ew]; rfl, fun d hd => ?_, rfl⟩
    rcases List.mem_append.mp hd with hd | hd
    · exact hw d hd
    · rw [List.mem_singleton.mp hd]; exact hc
  · subst eδ
    unfold c_free_3
    simp only [eq_self, decide_true, decide_false, Bool.not_true, Bool.not_false, true_and, and_true, wp_isi, isK, List.any_cons, List.any_nil, Bool.or_false, Bool.false_or, Bool.or_true, Bool.true_or, setS, retS, exprS, cstE, op1E, op2E, opnE, consA, nilA, valT, andT, orT, notT, iteE, andE, orE, notE, callE, methE, m0, m1, one, skipS, brkS, cntS, raiseS, subS, parS, var0, set0, var1, set1, var2, set2, var3, set3, var4, set4, var5, set5, var6, set6, var7, set7, var8, set8, var9, set9, var10, set10, var11, set11, var12, set12, var13, set13, var14, set14, var15, set15, var16, set16, var17, set17, var18, set18, var19, set19, wp_bnd, wpr, wpe, wp_chk, bndr, bnde, List.append_nil, List.nil_append, List.cons_append, cond_true, cond_false, decide_eq_true_eq, slc_s1, slc_s2, slc_s3, slc_t1, slc_t2, slc_t3, slc_l1, slc_l2, slc_l3, chk_i, sliceE, add_ii, sub_ii, mul_ii, fdiv_ii, mod_ii, pow_ii, eq_ii, ne_ii, lt_ii, le_ii, gt_ii, ge_ii, add_ss, add_tt, mul_si, eq_ss, ne_ss, eq_bb, neg_i, abs_i, int_i, int_b, len_s, len_t, len_k, max_ii, min_ii, tr_b, tr_i, tr_s, tr_n, ie_i, is_i, isnt_i, ie_s, is_s, isnt_s, ie_b, is_b, isnt_b, ie_t, is_t, isnt_t, ie_l, is_l, isnt_l, ie_k, is_k, isnt_k, ie_n, is_n, isnt_n, ie_e, in_ss, nin_ss, sub_si, sub_ti, kst, end_rt, end_nx]
    exact hq _ _ ew hw ok
theorem map_erase {α β : Type} {f : α → β} : ∀ (r : List α) (k : Nat), (r.map f).eraseIdx k = (r.eraseIdx k).map f
  | [], _ => rfl
  | x :: r, 0 => rfl
  | x :: r, k + 1 => by
    show f x :: (r.map f).eraseIdx k = f x :: (r.eraseIdx k).map f
    rw [map_erase r k]
theorem Ex.lst {L : Nat} {S S' : Store} {l : Nat} {o : Ob} (h : Ex L S S') (hl : l ≠ L) (e : S[l]? = some o) : S'[l]? = some o := h l o hl e
theorem sp_shuffled {n L N l : Nat} {s : List Nat} {S : Store} {Q : D → Store → Prop} {E : Nat → List D → Store → Prop} (h : StO L N S) (hl : S[l]? = some (.lst true (sgs s))) (hL : l ≠ L) (hz : s.length ≤ 100)
    (hq : ∀ (j : Nat) (z : List Nat) S', S'[j]? = some (.lst true (sgs z)) → z.Perm s → Ok L N S S' → Q (.loc j) S') : Wp (callF LT (n + 3) i_shuffled [.loc L, .loc l]) S Q E := by
  rw [e_shuffled]
  unfold c_shuffled
  refine wp_def (wp_seq ?_)
  unfold c_shuffled_0
  simp only [eq_self, decide_true, decide_false, Bool.not_true, Bool.not_false, true_and, and_true, wp_isi, isK, List.any_cons, List.any_nil, Bool.or_false, Bool.false_or, Bool.or_true, Bool.true_or, setS, retS, exprS, cstE, op1E, op2E, opnE, consA, nilA, valT, andT, orT, notT, iteE, andE, orE, notE, callE, methE, m0, m1, one, skipS, brkS, cntS, raiseS, subS, parS, var0, set0, var1, set1, var2, set2, var3, set3, var4, set4, var5, set5, var6, set6, var7, set7, var8, set8, var9, set9, var10, set10, var11, set11, var12, set12, var13, set13, var14, set14, var15, set15, var16, set16, var17, set17, var18, set18, var19, set19, wp_bnd, wpr, wpe, wp_chk, bndr, bnde, List.append_nil, List.nil_append, List.cons_append, cond_true, cond_false, decide_eq_true_eq, slc_s1, slc_s2, slc_s3, slc_t1, slc_t2, slc_t3, slc_l1, slc_l2, slc_l3, chk_i, sliceE, add_ii, sub_ii, mul_ii, fdiv_ii, mod_ii, pow_ii, eq_ii, ne_ii, lt_ii, le_ii, gt_ii, ge_ii, add_ss, add_tt, mul_si, eq_ss, ne_ss, eq_bb, neg_i, abs_i, int_i, int_b, len_s, len_t, len_k, max_ii, min_ii, tr_b, tr_i, tr_s, tr_n, ie_i, is_i, isnt_i, ie_s, is_s, isnt_s, ie_b, is_b, isnt_b, ie_t, is_t, isnt_t, ie_l, is_l, isnt_l, ie_k, is_k, isnt_k, ie_n, is_n, isnt_n, ie_e, in_ss, nin_ss, sub_si, sub_ti, kst, end_rt, end_nx, listD, seqOf, wp_lat hl, wp_newL]
  have hs : (sgs s).length = s.length := by simp [sgs]
  refine ⟨noExc_sgs s, by rw [hs]; show _ ≤ 16777216; omega, wp_seq ?_⟩
  unfold c_shuffled_1
  simp only [eq_self, decide_true, decide_false, Bool.not_true, Bool.not_false, true_and, and_true, wp_isi, isK, List.any_cons, List.any_nil, Bool.or_false, Bool.false_or, Bool.or_true, Bool.true_or, setS, retS, exprS, cstE, op1E, op2E, opnE, consA, nilA, valT, andT, orT, notT, iteE, andE, orE, notE, callE, methE, m0, m1, one, skipS, brkS, cntS, raiseS, subS, parS, var0, set0, var1, set1, var2, set2, var3, set3, var4, set4, var5, set5, var6, set6, var7, set7, var8, set8, var9, set9, var10, set10, var11, set11, var12, set12, var13, set13, var14, set14, var15, set15, var16, set16, var17, set17, var18, set18, var19, set19, wp_bnd, wpr, wpe, wp_chk, bndr, bnde, List.append_nil, List.nil_append, List.cons_append, cond_true, cond_false, decide_eq_true_eq, slc_s1, slc_s2, slc_s3, slc_t1, slc_t2, slc_t3, slc_l1, slc_l2, slc_l3, chk_i, sliceE, add_ii, sub_ii, mul_ii, fdiv_ii, mod_ii, pow_ii, eq_ii, ne_ii, lt_ii, le_ii, gt_ii, ge_ii, add_ss, add_tt, mul_si, eq_ss, ne_ss, eq_bb, neg_i, abs_i, int_i, int_b, len_s, len_t, len_k, max_ii, min_ii, tr_b, tr_i, tr_s, tr_n, ie_i, is_i, isnt_i, ie_s, is_s, isnt_s, ie_b, is_b, isnt_b, ie_t, is_t, isnt_t, ie_l, is_l, isnt_l, ie_k, is_k, isnt_k, ie_n, is_n, isnt_n, ie_e, in_ss, nin_ss, sub_si, sub_ti, kst, end_rt, end_nx, wp_newL]
  refine ⟨rfl, by simp [SZ], wp_seq ?_⟩
  have a1 : (S ++ [Ob.lst true (sgs s)])[S.length]? = _ := at_new
  have p1 : Pre S (S ++ [Ob.lst true (sgs s)]) := .app
  have l1 : (S ++ [Ob.lst true (sgs s)]).length = S.length + 1 := by simp
  generalize S ++ [Ob.lst true (sgs s)] = S1 at a1 p1 l1
  have a2 : (S1 ++ [Ob.lst true []])[S1.length]? = _ := at_new
  have p2 : Pre S1 (S1 ++ [Ob.lst true []]) := .app
  have a1 := p2 _ _ a1
  have p2 := p1.trans p2
  generalize S1 ++ [Ob.lst true []] = S2 at a1 a2 p2
  rw [l1] at a2 ⊢
  have hLS := h.lt
  unfold c_shuffled_2
  refine wp_forR ?_
  simp only [eq_self, decide_true, decide_false, Bool.not_true, Bool.not_false, true_and, and_true, wp_isi, isK, List.any_cons, List.any_nil, Bool.or_false, Bool.false_or, Bool.or_true, Bool.true_or, setS, retS, exprS, cstE, op1E, op2E, opnE, consA, nilA, valT, andT, orT, notT, iteE, andE, orE, notE, callE, methE, m0, m1, one, skipS, brkS, cntS, raiseS, subS, parS, var0, set0, var1, set1, var2, set2, var3, set3, var4, set4, var5, set5, var6, set6, var7, set7, var8, set8, var9, set9, var10, set10, var11, set11, var12, set12, var13, set13, var14, set14, var15, set15, var16, set16, var17, set17, var18, set18, var19, set19, wp_bnd, wpr, wpe, wp_chk, bndr, bnde, List.append_nil, List.nil_append, List.cons_append, cond_true, cond_false, decide_eq_true_eq, slc_s1, slc_s2, slc_s3, slc_t1, slc_t2, slc_t3, slc_l1, slc_l2, slc_l3, chk_i, sliceE, add_ii, sub_ii, mul_ii, fdiv_ii, mod_ii, pow_ii, eq_ii, ne_ii, lt_ii, le_ii, gt_ii, ge_ii, add_ss, add_tt, mul_si, eq_ss, ne_ss, eq_bb, neg_i, abs_i, int_i, int_b, len_s, len_t, len_k, max_ii, min_ii, tr_b, tr_i, tr_s, tr_n, ie_i, is_i, isnt_i, ie_s, is_s, isnt_s, ie_b, is_b, isnt_b, ie_t, is_t, isnt_t, ie_l, is_l, isnt_l, ie_k, is_k, isnt_k, ie_n, is_n, isnt_n, ie_e, in_ss, nin_ss, sub_si, sub_ti, kst, end_rt, end_nx, wp_lenl (p2 _ _ hl), hs]
  refine ⟨_, rfl, rgOk_s (by omega), wp_rgGo (fun i δ S' => Ok L N S S' ∧ ∃ r f x, f.length = i ∧ f.length + r.length = s.length ∧ (f ++ r).Perm s ∧ S'[S.length]? = some (.lst true (sgs r)) ∧ S'[S.length + 1]? = some (.lst true (sgs f)) ∧ δ = [some (.loc L), some (.loc l), some (.loc S.length), some (.loc (S.length + 1)), x]) ⟨(Ok.refl h).pre p2, s, [], _, rfl, by simp, .refl _, a1, a2, rfl⟩ (fun i δ S' hi ⟨ok, r, f, x, ef, er, hp, b1, b2, eδ⟩ => ?_) (fun δ S' ⟨ok, r, f, x, ef, er, hp, b1, b2, eδ⟩ => ?_)⟩
  · subst eδ
    unfold c_shuffled_3
    have hr : (sgs r).length = r.length := by simp [sgs]
    simp only [eq_self, decide_true, decide_false, Bool.not_true, Bool.not_false, true_and, and_true, wp_isi, isK, List.any_cons, List.any_nil, Bool.or_false, Bool.false_or, Bool.or_true, Bool.true_or, setS, retS, exprS, cstE, op1E, op2E, opnE, consA, nilA, valT, andT, orT, notT, iteE, andE, orE, notE, callE, methE, m0, m1, one, skipS, brkS, cntS, raiseS, subS, parS, var0, set0, var1, set1, var2, set2, var3, set3, var4, set4, var5, set5, var6, set6, var7, set7, var8, set8, var9, set9, var10, set10, var11, set11, var12, set12, var13, set13, var14, set14, var15, set15, var16, set16, var17, set17, var18, set18, var19, set19, wp_bnd, wpr, wpe, wp_chk, bndr, bnde, List.append_nil, List.nil_append, List.cons_append, cond_true, cond_false, decide_eq_true_eq, slc_s1, slc_s2, slc_s3, slc_t1, slc_t2, slc_t3, slc_l1, slc_l2, slc_l3, chk_i, sliceE, add_ii, sub_ii, mul_ii, fdiv_ii, mod_ii, pow_ii, eq_ii, ne_ii, lt_ii, le_ii, gt_ii, ge_ii, add_ss, add_tt, mul_si, eq_ss, ne_ss, eq_bb, neg_i, abs_i, int_i, int_b, len_s, len_t, len_k, max_ii, min_ii, tr_b, tr_i, tr_s, tr_n, ie_i, is_i, isnt_i, ie_s, is_s, isnt_s, ie_b, is_b, isnt_b, ie_t, is_t, isnt_t, ie_l, is_l, isnt_l, ie_k, is_k, isnt_k, ie_n, is_n, isnt_n, ie_e, in_ss, nin_ss, sub_si, sub_ti, kst, end_rt, end_nx, List.set, wp_lstK b2, wp_lstK b1, wp_lenl b1, hr]
    refine sp_take ok.1 (by omega) fun d S3 ⟨k, ek, k0, k1, k2⟩ st ex => ?_
    subst ek
    have ok3 := ok.trans ⟨st, ex⟩
    have b1 := ex _ _ (by omega) b1
    have b2 := ex _ _ (by omega) b2
    have hi2 : i < s.length := by omega
    have hk : k.toNat < r.length := by
      by_cases q : 2 ≤ r.length
      · have := k1 (by omega); omega
      · have := k2 (by omega); omega
    have e1 := List.getElem?_eq_getElem hk
    generalize r[k.toNat] = c at e1
    have e2 : (sgs r)[k.toNat]? = some (.str [c]) := by unfold sgs; rw [List.getElem?_map, e1]; rfl
    have e3 : ixOf k (sgs r).length = some k.toNat := by
      unfold ixOf
      rw [if_pos k0, if_pos (by rw [hr]; omega)]
    have e4 : (sgs r).eraseIdx k.toNat = sgs (r.eraseIdx k.toNat) := map_erase _ _
    (try simp only [eq_self, decide_true, decide_false, Bool.not_true, Bool.not_false, true_and, and_true, wp_isi, isK, List.any_cons, List.any_nil, Bool.or_false, Bool.false_or, Bool.or_true, Bool.true_or, setS, retS, exprS, cstE, op1E, op2E, opnE, consA, nilA, valT, andT, orT, notT, iteE, andE, orE, notE, callE, methE, m0, m1, one, skipS, brkS, cntS, raiseS, subS, parS, var0, set0, var1, set1, var2, set2, var3, set3, var4, set4, var5, set5, var6, set6, var7, set7, var8, set8, var9, set9, var10, set10, var11, set11, var12, set12, var13, set13, var14, set14, var15, set15, var16, set16, var17, set17, var18, set18, var19, set19, wp_bnd, wpr, wpe, wp_chk, bndr, bnde, List.append_nil, List.nil_append, List.cons_append, cond_true, cond_false, decide_eq_true_eq, slc_s1, slc_s2, slc_s3, slc_t1, slc_t2, slc_t3, slc_l1, slc_l2, slc_l3, chk_i, sliceE, add_ii, sub_ii, mul_ii, fdiv_ii, mod_ii, pow_ii, eq_ii, ne_ii, lt_ii, le_ii, gt_ii, ge_ii, add_ss, add_tt, mul_si, eq_ss, ne_ss, eq_bb, neg_i, abs_i, int_i, int_b, len_s, len_t, len_k, max_ii, min_ii, tr_b, tr_i, tr_s, tr_n, ie_i, is_i, isnt_i, ie_s, is_s, isnt_s, ie_b, is_b, isnt_b, ie_t, is_t, isnt_t, ie_l, is_l, isnt_l, ie_k, is_k, isnt_k, ie_n, is_n, isnt_n, ie_e, in_ss, nin_ss, sub_si, sub_ti, kst, end_rt, end_nx])
    show Wp (bnd (listW S.length) fun xs => (match ixOf k xs.length with
      | some k => (match xs[k]? with
        | some d => bnd (putL S.length (xs.eraseIdx k)) fun _ => ret d
        | none => err)
      | none => err)) S3 _ _
    rw [wp_bnd, wp_lwt b1, e3]
    dsimp only
    rw [e2, e4]
    dsimp only
    rw [wp_bnd, wp_putL]
    have hel : (r.eraseIdx k.toNat).length + 1 = r.length := by rw [List.length_eraseIdx, if_pos hk]; omega
    refine ⟨_, b1, noExc_sgs _, by simp [sgs, SZ]; omega, ?_⟩
    have c1 := at_set (p := .lst true (sgs (r.eraseIdx k.toNat))) b1
    have c2 := at_ne (p := .lst true (sgs (r.eraseIdx k.toNat))) b2 (show S.length ≠ S.length + 1 by omega)
    have ok4 := ok3.set (o := .lst true (sgs (r.eraseIdx k.toNat))) hLS (Nat.le_refl _)
    generalize S3.set S.length (.lst true (sgs (r.eraseIdx k.toNat))) = S4 at c1 c2 ok4
    simp only [eq_self, decide_true, decide_false, Bool.not_true, Bool.not_false, true_and, and_true, wp_isi, isK, List.any_cons, List.any_nil, Bool.or_false, Bool.false_or, Bool.or_true, Bool.true_or, setS, retS, exprS, cstE, op1E, op2E, opnE, consA, nilA, valT, andT, orT, notT, iteE, andE, orE, notE, callE, methE, m0, m1, one, skipS, brkS, cntS, raiseS, subS, parS, var0, set0, var1, set1, var2, set2, var3, set3, var4, set4, var5, set5, var6, set6, var7, set7, var8, set8, var9, set9, var10, set10, var11, set11, var12, set12, var13, set13, var14, set14, var15, set15, var16, set16, var17, set17, var18, set18, var19, set19, wp_bnd, wpr, wpe, wp_chk, bndr, bnde, List.append_nil, List.nil_append, List.cons_append, cond_true, cond_false, decide_eq_true_eq, slc_s1, slc_s2, slc_s3, slc_t1, slc_t2, slc_t3, slc_l1, slc_l2, slc_l3, chk_i, sliceE, add_ii, sub_ii, mul_ii, fdiv_ii, mod_ii, pow_ii, eq_ii, ne_ii, lt_ii, le_ii, gt_ii, ge_ii, add_ss, add_tt, mul_si, eq_ss, ne_ss, eq_bb, neg_i, abs_i, int_i, int_b, len_s, len_t, len_k, max_ii, min_ii, tr_b, tr_i, tr_s, tr_n, ie_i, is_i, isnt_i, ie_s, is_s, isnt_s, ie_b, is_b, isnt_b, ie_t, is_t, isnt_t, ie_l, is_l, isnt_l, ie_k, is_k, isnt_k, ie_n, is_n, isnt_n, ie_e, in_ss, nin_ss, sub_si, sub_ti, kst, end_rt, end_nx, wp_app c2]
    have e5 : sgs f ++ [.str [c]] = sgs (f ++ [c]) := by simp [sgs]
    rw [e5]
    refine ⟨noExc_sgs _, by simp [sgs, SZ]; omega, ok4.set hLS (by omega), r.eraseIdx k.toNat, f ++ [c], _, by simp [ef], by simp; omega, ?_, at_ne c1 (by omega), at_set c2, rfl⟩
    rw [List.append_assoc]
    exact ((pop_perm e1).append_left f).trans hp
  · subst eδ
    unfold c_shuffled_4
    (try simp only [eq_self, decide_true, decide_false, Bool.not_true, Bool.not_false, true_and, and_true, wp_isi, isK, List.any_cons, List.any_nil, Bool.or_false, Bool.false_or, Bool.or_true, Bool.true_or, setS, retS, exprS, cstE, op1E, op2E, opnE, consA, nilA, valT, andT, orT, notT, iteE, andE, orE, notE, callE, methE, m0, m1, one, skipS, brkS, cntS, raiseS, subS, parS, var0, set0, var1, set1, var2, set2, var3, set3, var4, set4, var5, set5, var6, set6, var7, set7, var8, set8, var9, set9, var10, set10, var11, set11, var12, set12, var13, set13, var14, set14, var15, set15, var16, set16, var17, set17, var18, set18, var19, set19, wp_bnd, wpr, wpe, wp_chk, bndr, bnde, List.append_nil, List.nil_append, List.cons_append, cond_true, cond_false, decide_eq_true_eq, slc_s1, slc_s2, slc_s3, slc_t1, slc_t2, slc_t3, slc_l1, slc_l2, slc_l3, chk_i, sliceE, add_ii, sub_ii, mul_ii, fdiv_ii, mod_ii, pow_ii, eq_ii, ne_ii, lt_ii, le_ii, gt_ii, ge_ii, add_ss, add_tt, mul_si, eq_ss, ne_ss, eq_bb, neg_i, abs_i, int_i, int_b, len_s, len_t, len_k, max_ii, min_ii, tr_b, tr_i, tr_s, tr_n, ie_i, is_i, isnt_i, ie_s, is_s, isnt_s, ie_b, is_b, isnt_b, ie_t, is_t, isnt_t, ie_l, is_l, isnt_l, ie_k, is_k, isnt_k, ie_n, is_n, isnt_n, ie_e, in_ss, nin_ss, sub_si, sub_ti, kst, end_rt, end_nx])
    have : r = [] := List.length_eq_zero_iff.mp (by rw [show (s.length : Int).toNat = s.length by omega] at ef; omega)
    subst this
    rw [List.append_nil] at hp
    exact hq _ _ _ b2 hp ok
theorem sp_order {n L N w : Nat} {S : Store} {Q : D → Store → Prop} {E : Nat → List D → Store → Prop} (h : StO L N S) (lo : 1 ≤ w) (hi : w ≤ 5) (hq : ∀ o S', Ord w o → Ok L N S S' → Q (.str o) S') : Wp (callF LT (n + 4) i_order [.loc L, .int (w : Int)]) S Q E := by
  rw [e_order]
  unfold c_order
  refine wp_def (wp_seq ?_)
  unfold c_order_0
  simp only [eq_self, decide_true, decide_false, Bool.not_true, Bool.not_false, true_and, and_true, wp_isi, isK, List.any_cons, List.any_nil, Bool.or_false, Bool.false_or, Bool.or_true, Bool.true_or, setS, retS, exprS, cstE, op1E, op2E, opnE, consA, nilA, valT, andT, orT, notT, iteE, andE, orE, notE, callE, methE, m0, m1, one, skipS, brkS, cntS, raiseS, subS, parS, var0, set0, var1, set1, var2, set2, var3, set3, var4, set4, var5, set5, var6, set6, var7, set7, var8, set8, var9, set9, var10, set10, var11, set11, var12, set12, var13, set13, var14, set14, var15, set15, var16, set16, var17, set17, var18, set18, var19, set19, wp_bnd, wpr, wpe, wp_chk, bndr, bnde, List.append_nil, List.nil_append, List.cons_append, cond_true, cond_false, decide_eq_true_eq, slc_s1, slc_s2, slc_s3, slc_t1, slc_t2, slc_t3, slc_l1, slc_l2, slc_l3, chk_i, sliceE, add_ii, sub_ii, mul_ii, fdiv_ii, mod_ii, pow_ii, eq_ii, ne_ii, lt_ii, le_ii, gt_ii, ge_ii, add_ss, add_tt, mul_si, eq_ss, ne_ss, eq_bb, neg_i, abs_i, int_i, int_b, len_s, len_t, len_k, max_ii, min_ii, tr_b, tr_i, tr_s, tr_n, ie_i, is_i, isnt_i, ie_s, is_s, isnt_s, ie_b, is_b, isnt_b, ie_t, is_t, isnt_t, ie_l, is_l, isnt_l, ie_k, is_k, isnt_k, ie_n, is_n, isnt_n, ie_e, in_ss, nin_ss, sub_si, sub_ti, kst, end_rt, end_nx, sg_cut hi]
  refine wp_seq ?_
  unfold c_order_1
  (try simp only [eq_self, decide_true, decide_false, Bool.not_true, Bool.not_false, true_and, and_true, wp_isi, isK, List.any_cons, List.any_nil, Bool.or_false, Bool.false_or, Bool.or_true, Bool.true_or, setS, retS, exprS, cstE, op1E, op2E, opnE, consA, nilA, valT, andT, orT, notT, iteE, andE, orE, notE, callE, methE, m0, m1, one, skipS, brkS, cntS, raiseS, subS, parS, var0, set0, var1, set1, var2, set2, var3, set3, var4, set4, var5, set5, var6, set6, var7, set7, var8, set8, var9, set9, var10, set10, var11, set11, var12, set12, var13, set13, var14, set14, var15, set15, var16, set16, var17, set17, var18, set18, var19, set19, wp_bnd, wpr, wpe, wp_chk, bndr, bnde, List.append_nil, List.nil_append, List.cons_append, cond_true, cond_false, decide_eq_true_eq, slc_s1, slc_s2, slc_s3, slc_t1, slc_t2, slc_t3, slc_l1, slc_l2, slc_l3, chk_i, sliceE, add_ii, sub_ii, mul_ii, fdiv_ii, mod_ii, pow_ii, eq_ii, ne_ii, lt_ii, le_ii, gt_ii, ge_ii, add_ss, add_tt, mul_si, eq_ss, ne_ss, eq_bb, neg_i, abs_i, int_i, int_b, len_s, len_t, len_k, max_ii, min_ii, tr_b, tr_i, tr_s, tr_n, ie_i, is_i, isnt_i, ie_s, is_s, isnt_s, ie_b, is_b, isnt_b, ie_t, is_t, isnt_t, ie_l, is_l, isnt_l, ie_k, is_k, isnt_k, ie_n, is_n, isnt_n, ie_e, in_ss, nin_ss, sub_si, sub_ti, kst, end_rt, end_nx])
  refine sp_take h (by decide) fun r S1 ⟨k, er, k0, k1, _⟩ st ex => ?_
  subst er
  have ok : Ok L N S S1 := ⟨st, ex⟩
  clear st ex
  (try simp only [eq_self, decide_true, decide_false, Bool.not_true, Bool.not_false, true_and, and_true, wp_isi, isK, List.any_cons, List.any_nil, Bool.or_false, Bool.false_or, Bool.or_true, Bool.true_or, setS, retS, exprS, cstE, op1E, op2E, opnE, consA, nilA, valT, andT, orT, notT, iteE, andE, orE, notE, callE, methE, m0, m1, one, skipS, brkS, cntS, raiseS, subS, parS, var0, set0, var1, set1, var2, set2, var3, set3, var4, set4, var5, set5, var6, set6, var7, set7, var8, set8, var9, set9, var10, set10, var11, set11, var12, set12, var13, set13, var14, set14, var15, set15, var16, set16, var17, set17, var18, set18, var19, set19, wp_bnd, wpr, wpe, wp_chk, bndr, bnde, List.append_nil, List.nil_append, List.cons_append, cond_true, cond_false, decide_eq_true_eq, slc_s1, slc_s2, slc_s3, slc_t1, slc_t2, slc_t3, slc_l1, slc_l2, slc_l3, chk_i, sliceE, add_ii, sub_ii, mul_ii, fdiv_ii, mod_ii, pow_ii, eq_ii, ne_ii, lt_ii, le_ii, gt_ii, ge_ii, add_ss, add_tt, mul_si, eq_ss, ne_ss, eq_bb, neg_i, abs_i, int_i, int_b, len_s, len_t, len_k, max_ii, min_ii, tr_b, tr_i, tr_s, tr_n, ie_i, is_i, isnt_i, ie_s, is_s, isnt_s, ie_b, is_b, isnt_b, ie_t, is_t, isnt_t, ie_l, is_l, isnt_l, ie_k, is_k, isnt_k, ie_n, is_n, isnt_n, ie_e, in_ss, nin_ss, sub_si, sub_ti, kst, end_rt, end_nx])
  refine wp_seq ?_
  unfold c_order_2
  refine wp_ite ?_
  (try simp only [eq_self, decide_true, decide_false, Bool.not_true, Bool.not_false, true_and, and_true, wp_isi, isK, List.any_cons, List.any_nil, Bool.or_false, Bool.false_or, Bool.or_true, Bool.true_or, setS, retS, exprS, cstE, op1E, op2E, opnE, consA, nilA, valT, andT, orT, notT, iteE, andE, orE, notE, callE, methE, m0, m1, one, skipS, brkS, cntS, raiseS, subS, parS, var0, set0, var1, set1, var2, set2, var3, set3, var4, set4, var5, set5, var6, set6, var7, set7, var8, set8, var9, set9, var10, set10, var11, set11, var12, set12, var13, set13, var14, set14, var15, set15, var16, set16, var17, set17, var18, set18, var19, set19, wp_bnd, wpr, wpe, wp_chk, bndr, bnde, List.append_nil, List.nil_append, List.cons_append, cond_true, cond_false, decide_eq_true_eq, slc_s1, slc_s2, slc_s3, slc_t1, slc_t2, slc_t3, slc_l1, slc_l2, slc_l3, chk_i, sliceE, add_ii, sub_ii, mul_ii, fdiv_ii, mod_ii, pow_ii, eq_ii, ne_ii, lt_ii, le_ii, gt_ii, ge_ii, add_ss, add_tt, mul_si, eq_ss, ne_ss, eq_bb, neg_i, abs_i, int_i, int_b, len_s, len_t, len_k, max_ii, min_ii, tr_b, tr_i, tr_s, tr_n, ie_i, is_i, isnt_i, ie_s, is_s, isnt_s, ie_b, is_b, isnt_b, ie_t, is_t, isnt_t, ie_l, is_l, isnt_l, ie_k, is_k, isnt_k, ie_n, is_n, isnt_n, ie_e, in_ss, nin_ss, sub_si, sub_ti, kst, end_rt, end_nx])
  refine ⟨fun _ => ?_, fun _ => wp_seq ?_⟩
  · unfold c_order_3
    (try simp only [eq_self, decide_true, decide_false, Bool.not_true, Bool.not_false, true_and, and_true, wp_isi, isK, List.any_cons, List.any_nil, Bool.or_false, Bool.false_or, Bool.or_true, Bool.true_or, setS, retS, exprS, cstE, op1E, op2E, opnE, consA, nilA, valT, andT, orT, notT, iteE, andE, orE, notE, callE, methE, m0, m1, one, skipS, brkS, cntS, raiseS, subS, parS, var0, set0, var1, set1, var2, set2, var3, set3, var4, set4, var5, set5, var6, set6, var7, set7, var8, set8, var9, set9, var10, set10, var11, set11, var12, set12, var13, set13, var14, set14, var15, set15, var16, set16, var17, set17, var18, set18, var19, set19, wp_bnd, wpr, wpe, wp_chk, bndr, bnde, List.append_nil, List.nil_append, List.cons_append, cond_true, cond_false, decide_eq_true_eq, slc_s1, slc_s2, slc_s3, slc_t1, slc_t2, slc_t3, slc_l1, slc_l2, slc_l3, chk_i, sliceE, add_ii, sub_ii, mul_ii, fdiv_ii, mod_ii, pow_ii, eq_ii, ne_ii, lt_ii, le_ii, gt_ii, ge_ii, add_ss, add_tt, mul_si, eq_ss, ne_ss, eq_bb, neg_i, abs_i, int_i, int_b, len_s, len_t, len_k, max_ii, min_ii, tr_b, tr_i, tr_s, tr_n, ie_i, is_i, isnt_i, ie_s, is_s, isnt_s, ie_b, is_b, isnt_b, ie_t, is_t, isnt_t, ie_l, is_l, isnt_l, ie_k, is_k, isnt_k, ie_n, is_n, isnt_n, ie_e, in_ss, nin_ss, sub_si, sub_ti, kst, end_rt, end_nx])
    exact hq _ _ (ord_sg lo hi) ok
  unfold c_order_4
  refine wp_ite ?_
  (try simp only [eq_self, decide_true, decide_false, Bool.not_true, Bool.not_false, true_and, and_true, wp_isi, isK, List.any_cons, List.any_nil, Bool.or_false, Bool.false_or, Bool.or_true, Bool.true_or, setS, retS, exprS, cstE, op1E, op2E, opnE, consA, nilA, valT, andT, orT, notT, iteE, andE, orE, notE, callE, methE, m0, m1, one, skipS, brkS, cntS, raiseS, subS, parS, var0, set0, var1, set1, var2, set2, var3, set3, var4, set4, var5, set5, var6, set6, var7, set7, var8, set8, var9, set9, var10, set10, var11, set11, var12, set12, var13, set13, var14, set14, var15, set15, var16, set16, var17, set17, var18, set18, var19, set19, wp_bnd, wpr, wpe, wp_chk, bndr, bnde, List.append_nil, List.nil_append, List.cons_append, cond_true, cond_false, decide_eq_true_eq, slc_s1, slc_s2, slc_s3, slc_t1, slc_t2, slc_t3, slc_l1, slc_l2, slc_l3, chk_i, sliceE, add_ii, sub_ii, mul_ii, fdiv_ii, mod_ii, pow_ii, eq_ii, ne_ii, lt_ii, le_ii, gt_ii, ge_ii, add_ss, add_tt, mul_si, eq_ss, ne_ss, eq_bb, neg_i, abs_i, int_i, int_b, len_s, len_t, len_k, max_ii, min_ii, tr_b, tr_i, tr_s, tr_n, ie_i, is_i, isnt_i, ie_s, is_s, isnt_s, ie_b, is_b, isnt_b, ie_t, is_t, isnt_t, ie_l, is_l, isnt_l, ie_k, is_k, isnt_k, ie_n, is_n, isnt_n, ie_e, in_ss, nin_ss, sub_si, sub_ti, kst, end_rt, end_nx])
  refine ⟨fun _ => ?_, fun _ => wp_seq ?_⟩
  · unfold c_order_5
    simp only [eq_self, decide_true, decide_false, Bool.not_true, Bool.not_false, true_and, and_true, wp_isi, isK, List.any_cons, List.any_nil, Bool.or_false, Bool.false_or, Bool.or_true, Bool.true_or, setS, retS, exprS, cstE, op1E, op2E, opnE, consA, nilA, valT, andT, orT, notT, iteE, andE, orE, notE, callE, methE, m0, m1, one, skipS, brkS, cntS, raiseS, subS, parS, var0, set0, var1, set1, var2, set2, var3, set3, var4, set4, var5, set5, var6, set6, var7, set7, var8, set8, var9, set9, var10, set10, var11, set11, var12, set12, var13, set13, var14, set14, var15, set15, var16, set16, var17, set17, var18, set18, var19, set19, wp_bnd, wpr, wpe, wp_chk, bndr, bnde, List.append_nil, List.nil_append, List.cons_append, cond_true, cond_false, decide_eq_true_eq, slc_s1, slc_s2, slc_s3, slc_t1, slc_t2, slc_t3, slc_l1, slc_l2, slc_l3, chk_i, sliceE, add_ii, sub_ii, mul_ii, fdiv_ii, mod_ii, pow_ii, eq_ii, ne_ii, lt_ii, le_ii, gt_ii, ge_ii, add_ss, add_tt, mul_si, eq_ss, ne_ss, eq_bb, neg_i, abs_i, int_i, int_b, len_s, len_t, len_k, max_ii, min_ii, tr_b, tr_i, tr_s, tr_n, ie_i, is_i, isnt_i, ie_s, is_s, isnt_s, ie_b, is_b, isnt_b, ie_t, is_t, isnt_t, ie_l, is_l, isnt_l, ie_k, is_k, isnt_k, ie_n, is_n, isnt_n, ie_e, in_ss, nin_ss, sub_si, sub_ti, kst, end_rt, end_nx, backD]
    exact hq _ _ (ord_rev lo hi) ok
  unfold c_order_6
  refine wp_ite ?_
  (try simp only [eq_self, decide_true, decide_false, Bool.not_true, Bool.not_false, true_and, and_true, wp_isi, isK, List.any_cons, List.any_nil, Bool.or_false, Bool.false_or, Bool.or_true, Bool.true_or, setS, retS, exprS, cstE, op1E, op2E, opnE, consA, nilA, valT, andT, orT, notT, iteE, andE, orE, notE, callE, methE, m0, m1, one, skipS, brkS, cntS, raiseS, subS, parS, var0, set0, var1, set1, var2, set2, var3, set3, var4, set4, var5, set5, var6, set6, var7, set7, var8, set8, var9, set9, var10, set10, var11, set11, var12, set12, var13, set13, var14, set14, var15, set15, var16, set16, var17, set17, var18, set18, var19, set19, wp_bnd, wpr, wpe, wp_chk, bndr, bnde, List.append_nil, List.nil_append, List.cons_append, cond_true, cond_false, decide_eq_true_eq, slc_s1, slc_s2, slc_s3, slc_t1, slc_t2, slc_t3, slc_l1, slc_l2, slc_l3, chk_i, sliceE, add_ii, sub_ii, mul_ii, fdiv_ii, mod_ii, pow_ii, eq_ii, ne_ii, lt_ii, le_ii, gt_ii, ge_ii, add_ss, add_tt, mul_si, eq_ss, ne_ss, eq_bb, neg_i, abs_i, int_i, int_b, len_s, len_t, len_k, max_ii, min_ii, tr_b, tr_i, tr_s, tr_n, ie_i, is_i, isnt_i, ie_s, is_s, isnt_s, ie_b, is_b, isnt_b, ie_t, is_t, isnt_t, ie_l, is_l, isnt_l, ie_k, is_k, isnt_k, ie_n, is_n, isnt_n, ie_e, in_ss, nin_ss, sub_si, sub_ti, kst, end_rt, end_nx])
  refine ⟨fun _ => ?_, fun _ => ?_⟩
  · unfold c_order_7
    (try simp only [eq_self, decide_true, decide_false, Bool.not_true, Bool.not_false, true_and, and_true, wp_isi, isK, List.any_cons, List.any_nil, Bool.or_false, Bool.false_or, Bool.or_true, Bool.true_or, setS, retS, exprS, cstE, op1E, op2E, opnE, consA, nilA, valT, andT, orT, notT, iteE, andE, orE, notE, callE, methE, m0, m1, one, skipS, brkS, cntS, raiseS, subS, parS, var0, set0, var1, set1, var2, set2, var3, set3, var4, set4, var5, set5, var6, set6, var7, set7, var8, set8, var9, set9, var10, set10, var11, set11, var12, set12, var13, set13, var14, set14, var15, set15, var16, set16, var17, set17, var18, set18, var19, set19, wp_bnd, wpr, wpe, wp_chk, bndr, bnde, List.append_nil, List.nil_append, List.cons_append, cond_true, cond_false, decide_eq_true_eq, slc_s1, slc_s2, slc_s3, slc_t1, slc_t2, slc_t3, slc_l1, slc_l2, slc_l3, chk_i, sliceE, add_ii, sub_ii, mul_ii, fdiv_ii, mod_ii, pow_ii, eq_ii, ne_ii, lt_ii, le_ii, gt_ii, ge_ii, add_ss, add_tt, mul_si, eq_ss, ne_ss, eq_bb, neg_i, abs_i, int_i, int_b, len_s, len_t, len_k, max_ii, min_ii, tr_b, tr_i, tr_s, tr_n, ie_i, is_i, isnt_i, ie_s, is_s, isnt_s, ie_b, is_b, isnt_b, ie_t, is_t, isnt_t, ie_l, is_l, isnt_l, ie_k, is_k, isnt_k, ie_n, is_n, isnt_n, ie_e, in_ss, nin_ss, sub_si, sub_ti, kst, end_rt, end_nx])
    have e1 := (cutL_two (s := sg w) (i := 1) (by decide)).1
    have e2 := (cutL_two (s := sg w) (i := 1) (by decide)).2
    rw [e1, e2]
    refine ⟨by simp [sg, SZ]; omega, hq _ _ (ord_rot lo hi) ok⟩
  unfold c_order_8
  (try simp only [eq_self, decide_true, decide_false, Bool.not_true, Bool.not_false, true_and, and_true, wp_isi, isK, List.any_cons, List.any_nil, Bool.or_false, Bool.false_or, Bool.or_true, Bool.true_or, setS, retS, exprS, cstE, op1E, op2E, opnE, consA, nilA, valT, andT, orT, notT, iteE, andE, orE, notE, callE, methE, m0, m1, one, skipS, brkS, cntS, raiseS, subS, parS, var0, set0, var1, set1, var2, set2, var3, set3, var4, set4, var5, set5, var6, set6, var7, set7, var8, set8, var9, set9, var10, set10, var11, set11, var12, set12, var13, set13, var14, set14, var15, set15, var16, set16, var17, set17, var18, set18, var19, set19, wp_bnd, wpr, wpe, wp_chk, bndr, bnde, List.append_nil, List.nil_append, List.cons_append, cond_true, cond_false, decide_eq_true_eq, slc_s1, slc_s2, slc_s3, slc_t1, slc_t2, slc_t3, slc_l1, slc_l2, slc_l3, chk_i, sliceE, add_ii, sub_ii, mul_ii, fdiv_ii, mod_ii, pow_ii, eq_ii, ne_ii, lt_ii, le_ii, gt_ii, ge_ii, add_ss, add_tt, mul_si, eq_ss, ne_ss, eq_bb, neg_i, abs_i, int_i, int_b, len_s, len_t, len_k, max_ii, min_ii, tr_b, tr_i, tr_s, tr_n, ie_i, is_i, isnt_i, ie_s, is_s, isnt_s, ie_b, is_b, isnt_b, ie_t, is_t, isnt_t, ie_l, is_l, isnt_l, ie_k, is_k, isnt_k, ie_n, is_n, isnt_n, ie_e, in_ss, nin_ss, sub_si, sub_ti, kst, end_rt, end_nx])
  refine wp_mapI (xs := sgs (sg w)) id ?_ (noExc_sgs _) (by rw [sgs, List.length_map, sg_len]; show _ ≤ 16777216; omega) (by rw [List.map_id]; exact noExc_sgs _) (fun d hd S' _ => ?_) ?_
  · simp only [eq_self, decide_true, decide_false, Bool.not_true, Bool.not_false, true_and, and_true, wp_isi, isK, List.any_cons, List.any_nil, Bool.or_false, Bool.false_or, Bool.or_true, Bool.true_or, setS, retS, exprS, cstE, op1E, op2E, opnE, consA, nilA, valT, andT, orT, notT, iteE, andE, orE, notE, callE, methE, m0, m1, one, skipS, brkS, cntS, raiseS, subS, parS, var0, set0, var1, set1, var2, set2, var3, set3, var4, set4, var5, set5, var6, set6, var7, set7, var8, set8, var9, set9, var10, set10, var11, set11, var12, set12, var13, set13, var14, set14, var15, set15, var16, set16, var17, set17, var18, set18, var19, set19, wp_bnd, wpr, wpe, wp_chk, bndr, bnde, List.append_nil, List.nil_append, List.cons_append, cond_true, cond_false, decide_eq_true_eq, slc_s1, slc_s2, slc_s3, slc_t1, slc_t2, slc_t3, slc_l1, slc_l2, slc_l3, chk_i, sliceE, add_ii, sub_ii, mul_ii, fdiv_ii, mod_ii, pow_ii, eq_ii, ne_ii, lt_ii, le_ii, gt_ii, ge_ii, add_ss, add_tt, mul_si, eq_ss, ne_ss, eq_bb, neg_i, abs_i, int_i, int_b, len_s, len_t, len_k, max_ii, min_ii, tr_b, tr_i, tr_s, tr_n, ie_i, is_i, isnt_i, ie_s, is_s, isnt_s, ie_b, is_b, isnt_b, ie_t, is_t, isnt_t, ie_l, is_l, isnt_l, ie_k, is_k, isnt_k, ie_n, is_n, isnt_n, ie_e, in_ss, nin_ss, sub_si, sub_ti, kst, end_rt, end_nx, seqI]
    exact it_str
  · simp only [eq_self, decide_true, decide_false, Bool.not_true, Bool.not_false, true_and, and_true, wp_isi, isK, List.any_cons, List.any_nil, Bool.or_false, Bool.false_or, Bool.or_true, Bool.true_or, setS, retS, exprS, cstE, op1E, op2E, opnE, consA, nilA, valT, andT, orT, notT, iteE, andE, orE, notE, callE, methE, m0, m1, one, skipS, brkS, cntS, raiseS, subS, parS, var0, set0, var1, set1, var2, set2, var3, set3, var4, set4, var5, set5, var6, set6, var7, set7, var8, set8, var9, set9, var10, set10, var11, set11, var12, set12, var13, set13, var14, set14, var15, set15, var16, set16, var17, set17, var18, set18, var19, set19, wp_bnd, wpr, wpe, wp_chk, bndr, bnde, List.append_nil, List.nil_append, List.cons_append, cond_true, cond_false, decide_eq_true_eq, slc_s1, slc_s2, slc_s3, slc_t1, slc_t2, slc_t3, slc_l1, slc_l2, slc_l3, chk_i, sliceE, add_ii, sub_ii, mul_ii, fdiv_ii, mod_ii, pow_ii, eq_ii, ne_ii, lt_ii, le_ii, gt_ii, ge_ii, add_ss, add_tt, mul_si, eq_ss, ne_ss, eq_bb, neg_i, abs_i, int_i, int_b, len_s, len_t, len_k, max_ii, min_ii, tr_b, tr_i, tr_s, tr_n, ie_i, is_i, isnt_i, ie_s, is_s, isnt_s, ie_b, is_b, isnt_b, ie_t, is_t, isnt_t, ie_l, is_l, isnt_l, ie_k, is_k, isnt_k, ie_n, is_n, isnt_n, ie_e, in_ss, nin_ss, sub_si, sub_ti, kst, end_rt, end_nx, forget, List.set]
    first | exact ⟨rfl, rfl⟩ | rfl
  rw [List.map_id]
  (try simp only [eq_self, decide_true, decide_false, Bool.not_true, Bool.not_false, true_and, and_true, wp_isi, isK, List.any_cons, List.any_nil, Bool.or_false, Bool.false_or, Bool.or_true, Bool.true_or, setS, retS, exprS, cstE, op1E, op2E, opnE, consA, nilA, valT, andT, orT, notT, iteE, andE, orE, notE, callE, methE, m0, m1, one, skipS, brkS, cntS, raiseS, subS, parS, var0, set0, var1, set1, var2, set2, var3, set3, var4, set4, var5, set5, var6, set6, var7, set7, var8, set8, var9, set9, var10, set10, var11, set11, var12, set12, var13, set13, var14, set14, var15, set15, var16, set16, var17, set17, var18, set18, var19, set19, wp_bnd, wpr, wpe, wp_chk, bndr, bnde, List.append_nil, List.nil_append, List.cons_append, cond_true, cond_false, decide_eq_true_eq, slc_s1, slc_s2, slc_s3, slc_t1, slc_t2, slc_t3, slc_l1, slc_l2, slc_l3, chk_i, sliceE, add_ii, sub_ii, mul_ii, fdiv_ii, mod_ii, pow_ii, eq_ii, ne_ii, lt_ii, le_ii, gt_ii, ge_ii, add_ss, add_tt, mul_si, eq_ss, ne_ss, eq_bb, neg_i, abs_i, int_i, int_b, len_s, len_t, len_k, max_ii, min_ii, tr_b, tr_i, tr_s, tr_n, ie_i, is_i, isnt_i, ie_s, is_s, isnt_s, ie_b, is_b, isnt_b, ie_t, is_t, isnt_t, ie_l, is_l, isnt_l, ie_k, is_k, isnt_k, ie_n, is_n, isnt_n, ie_e, in_ss, nin_ss, sub_si, sub_ti, kst, end_rt, end_nx])
  have hn : S1.length ≠ L := by have := ok.1.lt; omega
  have ok2 := ok.app (r := [Ob.lst true (sgs (sg w))])
  refine sp_shuffled ok2.1 at_new hn (by rw [sg_len]; omega) fun j z S3 hj hp ok3 => ?_
  (try simp only [eq_self, decide_true, decide_false, Bool.not_true, Bool.not_false, true_and, and_true, wp_isi, isK, List.any_cons, List.any_nil, Bool.or_false, Bool.false_or, Bool.or_true, Bool.true_or, setS, retS, exprS, cstE, op1E, op2E, opnE, consA, nilA, valT, andT, orT, notT, iteE, andE, orE, notE, callE, methE, m0, m1, one, skipS, brkS, cntS, raiseS, subS, parS, var0, set0, var1, set1, var2, set2, var3, set3, var4, set4, var5, set5, var6, set6, var7, set7, var8, set8, var9, set9, var10, set10, var11, set11, var12, set12, var13, set13, var14, set14, var15, set15, var16, set16, var17, set17, var18, set18, var19, set19, wp_bnd, wpr, wpe, wp_chk, bndr, bnde, List.append_nil, List.nil_append, List.cons_append, cond_true, cond_false, decide_eq_true_eq, slc_s1, slc_s2, slc_s3, slc_t1, slc_t2, slc_t3, slc_l1, slc_l2, slc_l3, chk_i, sliceE, add_ii, sub_ii, mul_ii, fdiv_ii, mod_ii, pow_ii, eq_ii, ne_ii, lt_ii, le_ii, gt_ii, ge_ii, add_ss, add_tt, mul_si, eq_ss, ne_ss, eq_bb, neg_i, abs_i, int_i, int_b, len_s, len_t, len_k, max_ii, min_ii, tr_b, tr_i, tr_s, tr_n, ie_i, is_i, isnt_i, ie_s, is_s, isnt_s, ie_b, is_b, isnt_b, ie_t, is_t, isnt_t, ie_l, is_l, isnt_l, ie_k, is_k, isnt_k, ie_n, is_n, isnt_n, ie_e, in_ss, nin_ss, sub_si, sub_ti, kst, end_rt, end_nx])
  exact wp_join0 hj (by rw [hp.length_eq, sg_len]; show _ ≤ 16777216; omega) (by (try simp only [eq_self, decide_true, decide_false, Bool.not_true, Bool.not_false, true_and, and_true, wp_isi, isK, List.any_cons, List.any_nil, Bool.or_false, Bool.false_or, Bool.or_true, Bool.true_or, setS, retS, exprS, cstE, op1E, op2E, opnE, consA, nilA, valT, andT, orT, notT, iteE, andE, orE, notE, callE, methE, m0, m1, one, skipS, brkS, cntS, raiseS, subS, parS, var0, set0, var1, set1, var2, set2, var3, set3, var4, set4, var5, set5, var6, set6, var7, set7, var8, set8, var9, set9, var10, set10, var11, set11, var12, set12, var13, set13, var14, set14, var15, set15, var16, set16, var17, set17, var18, set18, var19, set19, wp_bnd, wpr, wpe, wp_chk, bndr, bnde, List.append_nil, List.nil_append, List.cons_append, cond_true, cond_false, decide_eq_true_eq, slc_s1, slc_s2, slc_s3, slc_t1, slc_t2, slc_t3, slc_l1, slc_l2, slc_l3, chk_i, sliceE, add_ii, sub_ii, mul_ii, fdiv_ii, mod_ii, pow_ii, eq_ii, ne_ii, lt_ii, le_ii, gt_ii, ge_ii, add_ss, add_tt, mul_si, eq_ss, ne_ss, eq_bb, neg_i, abs_i, int_i, int_b, len_s, len_t, len_k, max_ii, min_ii, tr_b, tr_i, tr_s, tr_n, ie_i, is_i, isnt_i, ie_s, is_s, isnt_s, ie_b, is_b, isnt_b, ie_t, is_t, isnt_t, ie_l, is_l, isnt_l, ie_k, is_k, isnt_k, ie_n, is_n, isnt_n, ie_e, in_ss, nin_ss, sub_si, sub_ti, kst, end_rt, end_nx]); exact hq _ _ ⟨lo, hi, hp⟩ (ok2.trans ok3))
theorem sp_most {n w : Nat} {S : Store} {Q : D → Store → Prop} {E : Nat → List D → Store → Prop} (lo : 1 ≤ w) (hi : w ≤ 5) (hq : ∀ S', Pre S S' → Q (.int (most w : Nat)) S') : Wp (callF LT (n + 1) i_most [.int (w : Int)]) S Q E := by
  rw [e_most]
  unfold c_most
  refine wp_def ?_
  unfold c_most_0
  simp only [eq_self, decide_true, decide_false, Bool.not_true, Bool.not_false, true_and, and_true, wp_isi, isK, List.any_cons, List.any_nil, Bool.or_false, Bool.false_or, Bool.or_true, Bool.true_or, setS, retS, exprS, cstE, op1E, op2E, opnE, consA, nilA, valT, andT, orT, notT, iteE, andE, orE, notE, callE, methE, m0, m1, one, skipS, brkS, cntS, raiseS, subS, parS, var0, set0, var1, set1, var2, set2, var3, set3, var4, set4, var5, set5, var6, set6, var7, set7, var8, set8, var9, set9, var10, set10, var11, set11, var12, set12, var13, set13, var14, set14, var15, set15, var16, set16, var17, set17, var18, set18, var19, set19, wp_bnd, wpr, wpe, wp_chk, bndr, bnde, List.append_nil, List.nil_append, List.cons_append, cond_true, cond_false, decide_eq_true_eq, slc_s1, slc_s2, slc_s3, slc_t1, slc_t2, slc_t3, slc_l1, slc_l2, slc_l3, chk_i, sliceE, add_ii, sub_ii, mul_ii, fdiv_ii, mod_ii, pow_ii, eq_ii, ne_ii, lt_ii, le_ii, gt_ii, ge_ii, add_ss, add_tt, mul_si, eq_ss, ne_ss, eq_bb, neg_i, abs_i, int_i, int_b, len_s, len_t, len_k, max_ii, min_ii, tr_b, tr_i, tr_s, tr_n, ie_i, is_i, isnt_i, ie_s, is_s, isnt_s, ie_b, is_b, isnt_b, ie_t, is_t, isnt_t, ie_l, is_l, isnt_l, ie_k, is_k, isnt_k, ie_n, is_n, isnt_n, ie_e, in_ss, nin_ss, sub_si, sub_ti, kst, end_rt, end_nx, wp_newL]
  refine ⟨rfl, by simp [SZ], ?_⟩
  have e : ([D.int 8, .int 8, .int 5, .int 4, .int 3])[w - 1]? = some (.int (most w : Nat)) := by
    match w, lo, hi with
    | 1, _, _ => rfl
    | 2, _, _ => rfl
    | 3, _, _ => rfl
    | 4, _, _ => rfl
    | 5, _, _ => rfl
    | w + 6, _, h => omega
  rw [wp_subl at_new, show ((w : Int) - 1) = ((w - 1 : Nat) : Int) by omega, wp_atL e]
  (try simp only [eq_self, decide_true, decide_false, Bool.not_true, Bool.not_false, true_and, and_true, wp_isi, isK, List.any_cons, List.any_nil, Bool.or_false, Bool.false_or, Bool.or_true, Bool.true_or, setS, retS, exprS, cstE, op1E, op2E, opnE, consA, nilA, valT, andT, orT, notT, iteE, andE, orE, notE, callE, methE, m0, m1, one, skipS, brkS, cntS, raiseS, subS, parS, var0, set0, var1, set1, var2, set2, var3, set3, var4, set4, var5, set5, var6, set6, var7, set7, var8, set8, var9, set9, var10, set10, var11, set11, var12, set12, var13, set13, var14, set14, var15, set15, var16, set16, var17, set17, var18, set18, var19, set19, wp_bnd, wpr, wpe, wp_chk, bndr, bnde, List.append_nil, List.nil_append, List.cons_append, cond_true, cond_false, decide_eq_true_eq, slc_s1, slc_s2, slc_s3, slc_t1, slc_t2, slc_t3, slc_l1, slc_l2, slc_l3, chk_i, sliceE, add_ii, sub_ii, mul_ii, fdiv_ii, mod_ii, pow_ii, eq_ii, ne_ii, lt_ii, le_ii, gt_ii, ge_ii, add_ss, add_tt, mul_si, eq_ss, ne_ss, eq_bb, neg_i, abs_i, int_i, int_b, len_s, len_t, len_k, max_ii, min_ii, tr_b, tr_i, tr_s, tr_n, ie_i, is_i, isnt_i, ie_s, is_s, isnt_s, ie_b, is_b, isnt_b, ie_t, is_t, isnt_t, ie_l, is_l, isnt_l, ie_k, is_k, isnt_k, ie_n, is_n, isnt_n, ie_e, in_ss, nin_ss, sub_si, sub_ti, kst, end_rt, end_nx])
  exact hq _ .app
theorem tx_snoc {w c : Nat} {t : List Nat} (h : Tx w t) (hc : 48 ≤ c ∧ c < 48 + w) : Tx w (t ++ [c]) := by
  intro d hd
  rcases List.mem_append.mp hd with hd | hd
  · exact h d hd
  · rw [List.mem_singleton.mp hd]; exact hc
theorem sp_row {n L N w : Nat} {k : Int} {S : Store} {Q : D → Store → Prop} {E : Nat → List D → Store → Prop} (h : StO L N S) (lo : 1 ≤ w) (hi : w ≤ 5) (hk : 0 ≤ k ∧ k ≤ 8) (hq : ∀ t S', t.length = k.toNat → Tx w t → Ok L N S S' → Q (.str t) S') : Wp (callF LT (n + 4) i_row [.loc L, .int (w : Int), .int k]) S Q E := by
  rw [e_row]
  unfold c_row
  refine wp_def (wp_seq ?_)
  unfold c_row_0
  (try simp only [eq_self, decide_true, decide_false, Bool.not_true, Bool.not_false, true_and, and_true, wp_isi, isK, List.any_cons, List.any_nil, Bool.or_false, Bool.false_or, Bool.or_true, Bool.true_or, setS, retS, exprS, cstE, op1E, op2E, opnE, consA, nilA, valT, andT, orT, notT, iteE, andE, orE, notE, callE, methE, m0, m1, one, skipS, brkS, cntS, raiseS, subS, parS, var0, set0, var1, set1, var2, set2, var3, set3, var4, set4, var5, set5, var6, set6, var7, set7, var8, set8, var9, set9, var10, set10, var11, set11, var12, set12, var13, set13, var14, set14, var15, set15, var16, set16, var17, set17, var18, set18, var19, set19, wp_bnd, wpr, wpe, wp_chk, bndr, bnde, List.append_nil, List.nil_append, List.cons_append, cond_true, cond_false, decide_eq_true_eq, slc_s1, slc_s2, slc_s3, slc_t1, slc_t2, slc_t3, slc_l1, slc_l2, slc_l3, chk_i, sliceE, add_ii, sub_ii, mul_ii, fdiv_ii, mod_ii, pow_ii, eq_ii, ne_ii, lt_ii, le_ii, gt_ii, ge_ii, add_ss, add_tt, mul_si, eq_ss, ne_ss, eq_bb, neg_i, abs_i, int_i, int_b, len_s, len_t, len_k, max_ii, min_ii, tr_b, tr_i, tr_s, tr_n, ie_i, is_i, isnt_i, ie_s, is_s, isnt_s, ie_b, is_b, isnt_b, ie_t, is_t, isnt_t, ie_l, is_l, isnt_l, ie_k, is_k, isnt_k, ie_n, is_n, isnt_n, ie_e, in_ss, nin_ss, sub_si, sub_ti, kst, end_rt, end_nx])
  refine sp_take h (by decide) fun r S1 ⟨kd, er, k0, _⟩ st ex => ?_
  subst er
  have ok1 : Ok L N S S1 := ⟨st, ex⟩
  clear st ex
  (try simp only [eq_self, decide_true, decide_false, Bool.not_true, Bool.not_false, true_and, and_true, wp_isi, isK, List.any_cons, List.any_nil, Bool.or_false, Bool.false_or, Bool.or_true, Bool.true_or, setS, retS, exprS, cstE, op1E, op2E, opnE, consA, nilA, valT, andT, orT, notT, iteE, andE, orE, notE, callE, methE, m0, m1, one, skipS, brkS, cntS, raiseS, subS, parS, var0, set0, var1, set1, var2, set2, var3, set3, var4, set4, var5, set5, var6, set6, var7, set7, var8, set8, var9, set9, var10, set10, var11, set11, var12, set12, var13, set13, var14, set14, var15, set15, var16, set16, var17, set17, var18, set18, var19, set19, wp_bnd, wpr, wpe, wp_chk, bndr, bnde, List.append_nil, List.nil_append, List.cons_append, cond_true, cond_false, decide_eq_true_eq, slc_s1, slc_s2, slc_s3, slc_t1, slc_t2, slc_t3, slc_l1, slc_l2, slc_l3, chk_i, sliceE, add_ii, sub_ii, mul_ii, fdiv_ii, mod_ii, pow_ii, eq_ii, ne_ii, lt_ii, le_ii, gt_ii, ge_ii, add_ss, add_tt, mul_si, eq_ss, ne_ss, eq_bb, neg_i, abs_i, int_i, int_b, len_s, len_t, len_k, max_ii, min_ii, tr_b, tr_i, tr_s, tr_n, ie_i, is_i, isnt_i, ie_s, is_s, isnt_s, ie_b, is_b, isnt_b, ie_t, is_t, isnt_t, ie_l, is_l, isnt_l, ie_k, is_k, isnt_k, ie_n, is_n, isnt_n, ie_e, in_ss, nin_ss, sub_si, sub_ti, kst, end_rt, end_nx])
  refine wp_seq ?_
  unfold c_row_1
  (try simp only [eq_self, decide_true, decide_false, Bool.not_true, Bool.not_false, true_and, and_true, wp_isi, isK, List.any_cons, List.any_nil, Bool.or_false, Bool.false_or, Bool.or_true, Bool.true_or, setS, retS, exprS, cstE, op1E, op2E, opnE, consA, nilA, valT, andT, orT, notT, iteE, andE, orE, notE, callE, methE, m0, m1, one, skipS, brkS, cntS, raiseS, subS, parS, var0, set0, var1, set1, var2, set2, var3, set3, var4, set4, var5, set5, var6, set6, var7, set7, var8, set8, var9, set9, var10, set10, var11, set11, var12, set12, var13, set13, var14, set14, var15, set15, var16, set16, var17, set17, var18, set18, var19, set19, wp_bnd, wpr, wpe, wp_chk, bndr, bnde, List.append_nil, List.nil_append, List.cons_append, cond_true, cond_false, decide_eq_true_eq, slc_s1, slc_s2, slc_s3, slc_t1, slc_t2, slc_t3, slc_l1, slc_l2, slc_l3, chk_i, sliceE, add_ii, sub_ii, mul_ii, fdiv_ii, mod_ii, pow_ii, eq_ii, ne_ii, lt_ii, le_ii, gt_ii, ge_ii, add_ss, add_tt, mul_si, eq_ss, ne_ss, eq_bb, neg_i, abs_i, int_i, int_b, len_s, len_t, len_k, max_ii, min_ii, tr_b, tr_i, tr_s, tr_n, ie_i, is_i, isnt_i, ie_s, is_s, isnt_s, ie_b, is_b, isnt_b, ie_t, is_t, isnt_t, ie_l, is_l, isnt_l, ie_k, is_k, isnt_k, ie_n, is_n, isnt_n, ie_e, in_ss, nin_ss, sub_si, sub_ti, kst, end_rt, end_nx])
  refine sp_edge ok1.1 (by omega) fun r S2 ⟨od, er, o0, o1, o2⟩ st ex => ?_
  subst er
  have ok2 := ok1.trans ⟨st, ex⟩
  clear st ex
  (try simp only [eq_self, decide_true, decide_false, Bool.not_true, Bool.not_false, true_and, and_true, wp_isi, isK, List.any_cons, List.any_nil, Bool.or_false, Bool.false_or, Bool.or_true, Bool.true_or, setS, retS, exprS, cstE, op1E, op2E, opnE, consA, nilA, valT, andT, orT, notT, iteE, andE, orE, notE, callE, methE, m0, m1, one, skipS, brkS, cntS, raiseS, subS, parS, var0, set0, var1, set1, var2, set2, var3, set3, var4, set4, var5, set5, var6, set6, var7, set7, var8, set8, var9, set9, var10, set10, var11, set11, var12, set12, var13, set13, var14, set14, var15, set15, var16, set16, var17, set17, var18, set18, var19, set19, wp_bnd, wpr, wpe, wp_chk, bndr, bnde, List.append_nil, List.nil_append, List.cons_append, cond_true, cond_false, decide_eq_true_eq, slc_s1, slc_s2, slc_s3, slc_t1, slc_t2, slc_t3, slc_l1, slc_l2, slc_l3, chk_i, sliceE, add_ii, sub_ii, mul_ii, fdiv_ii, mod_ii, pow_ii, eq_ii, ne_ii, lt_ii, le_ii, gt_ii, ge_ii, add_ss, add_tt, mul_si, eq_ss, ne_ss, eq_bb, neg_i, abs_i, int_i, int_b, len_s, len_t, len_k, max_ii, min_ii, tr_b, tr_i, tr_s, tr_n, ie_i, is_i, isnt_i, ie_s, is_s, isnt_s, ie_b, is_b, isnt_b, ie_t, is_t, isnt_t, ie_l, is_l, isnt_l, ie_k, is_k, isnt_k, ie_n, is_n, isnt_n, ie_e, in_ss, nin_ss, sub_si, sub_ti, kst, end_rt, end_nx])
  refine wp_seq ?_
  unfold c_row_2
  (try simp only [eq_self, decide_true, decide_false, Bool.not_true, Bool.not_false, true_and, and_true, wp_isi, isK, List.any_cons, List.any_nil, Bool.or_false, Bool.false_or, Bool.or_true, Bool.true_or, setS, retS, exprS, cstE, op1E, op2E, opnE, consA, nilA, valT, andT, orT, notT, iteE, andE, orE, notE, callE, methE, m0, m1, one, skipS, brkS, cntS, raiseS, subS, parS, var0, set0, var1, set1, var2, set2, var3, set3, var4, set4, var5, set5, var6, set6, var7, set7, var8, set8, var9, set9, var10, set10, var11, set11, var12, set12, var13, set13, var14, set14, var15, set15, var16, set16, var17, set17, var18, set18, var19, set19, wp_bnd, wpr, wpe, wp_chk, bndr, bnde, List.append_nil, List.nil_append, List.cons_append, cond_true, cond_false, decide_eq_true_eq, slc_s1, slc_s2, slc_s3, slc_t1, slc_t2, slc_t3, slc_l1, slc_l2, slc_l3, chk_i, sliceE, add_ii, sub_ii, mul_ii, fdiv_ii, mod_ii, pow_ii, eq_ii, ne_ii, lt_ii, le_ii, gt_ii, ge_ii, add_ss, add_tt, mul_si, eq_ss, ne_ss, eq_bb, neg_i, abs_i, int_i, int_b, len_s, len_t, len_k, max_ii, min_ii, tr_b, tr_i, tr_s, tr_n, ie_i, is_i, isnt_i, ie_s, is_s, isnt_s, ie_b, is_b, isnt_b, ie_t, is_t, isnt_t, ie_l, is_l, isnt_l, ie_k, is_k, isnt_k, ie_n, is_n, isnt_n, ie_e, in_ss, nin_ss, sub_si, sub_ti, kst, end_rt, end_nx])
  refine wp_seq ?_
  unfold c_row_3
  refine wp_forR ?_
  (try simp only [eq_self, decide_true, decide_false, Bool.not_true, Bool.not_false, true_and, and_true, wp_isi, isK, List.any_cons, List.any_nil, Bool.or_false, Bool.false_or, Bool.or_true, Bool.true_or, setS, retS, exprS, cstE, op1E, op2E, opnE, consA, nilA, valT, andT, orT, notT, iteE, andE, orE, notE, callE, methE, m0, m1, one, skipS, brkS, cntS, raiseS, subS, parS, var0, set0, var1, set1, var2, set2, var3, set3, var4, set4, var5, set5, var6, set6, var7, set7, var8, set8, var9, set9, var10, set10, var11, set11, var12, set12, var13, set13, var14, set14, var15, set15, var16, set16, var17, set17, var18, set18, var19, set19, wp_bnd, wpr, wpe, wp_chk, bndr, bnde, List.append_nil, List.nil_append, List.cons_append, cond_true, cond_false, decide_eq_true_eq, slc_s1, slc_s2, slc_s3, slc_t1, slc_t2, slc_t3, slc_l1, slc_l2, slc_l3, chk_i, sliceE, add_ii, sub_ii, mul_ii, fdiv_ii, mod_ii, pow_ii, eq_ii, ne_ii, lt_ii, le_ii, gt_ii, ge_ii, add_ss, add_tt, mul_si, eq_ss, ne_ss, eq_bb, neg_i, abs_i, int_i, int_b, len_s, len_t, len_k, max_ii, min_ii, tr_b, tr_i, tr_s, tr_n, ie_i, is_i, isnt_i, ie_s, is_s, isnt_s, ie_b, is_b, isnt_b, ie_t, is_t, isnt_t, ie_l, is_l, isnt_l, ie_k, is_k, isnt_k, ie_n, is_n, isnt_n, ie_e, in_ss, nin_ss, sub_si, sub_ti, kst, end_rt, end_nx])
  refine ⟨_, rfl, rgOk_i hk.1 (by omega), wp_rgGo (fun i δ S' => Ok L N S S' ∧ ∃ t x y, t.length = i ∧ Tx w t ∧ δ = [some (.loc L), some (.int (w : Int)), some (.int k), some (.int kd), some (.int od), some (.str t), x, y]) ⟨ok2, [], _, _, rfl, (fun _ h => by cases h), rfl⟩ (fun i δ S' hi2 ⟨ok, t, x, y, et, ht, eδ⟩ => ?_) (fun δ S' ⟨ok, t, x, y, et, ht, eδ⟩ => ?_)⟩
  · subst eδ
    have s1 : Wp (c_row_4 (callF LT (n + 3)) [some (.loc L), some (.int (w : Int)), some (.int k), some (.int kd), some (.int od), some (.str t), some (.int (i : Int)), y]) S' (fun f S3 => Ok L N S S3 ∧ ∃ v : Int, 0 ≤ v ∧ v < w ∧ f = .nx [some (.loc L), some (.int (w : Int)), some (.int k), some (.int kd), some (.int od), some (.str t), some (.int (i : Int)), some (.int v)]) E := by
      have r6 : Wp (c_row_6 (callF LT (n + 3)) [some (.loc L), some (.int (w : Int)), some (.int k), some (.int kd), some (.int od), some (.str t), some (.int (i : Int)), y]) S' (fun f S3 => Ok L N S S3 ∧ ∃ v : Int, 0 ≤ v ∧ v < w ∧ f = .nx [some (.loc L), some (.int (w : Int)), some (.int k), some (.int kd), some (.int od), some (.str t), some (.int (i : Int)), some (.int v)]) E := by
        have r7 : Wp (c_row_7 (callF LT (n + 3)) [some (.loc L), some (.int (w : Int)), some (.int k), some (.int kd), some (.int od), some (.str t), some (.int (i : Int)), y]) S' (fun f S3 => Ok L N S S3 ∧ ∃ v : Int, 0 ≤ v ∧ v < w ∧ f = .nx [some (.loc L), some (.int (w : Int)), some (.int k), some (.int kd), some (.int od), some (.str t), some (.int (i : Int)), some (.int v)]) E := by
          unfold c_row_7
          (try simp only [eq_self, decide_true, decide_false, Bool.not_true, Bool.not_false, true_and, and_true, wp_isi, isK, List.any_cons, List.any_nil, Bool.or_false, Bool.false_or, Bool.or_true, Bool.true_or, setS, retS, exprS, cstE, op1E, op2E, opnE, consA, nilA, valT, andT, orT, notT, iteE, andE, orE, notE, callE, methE, m0, m1, one, skipS, brkS, cntS, raiseS, subS, parS, var0, set0, var1, set1, var2, set2, var3, set3, var4, set4, var5, set5, var6, set6, var7, set7, var8, set8, var9, set9, var10, set10, var11, set11, var12, set12, var13, set13, var14, set14, var15, set15, var16, set16, var17, set17, var18, set18, var19, set19, wp_bnd, wpr, wpe, wp_chk, bndr, bnde, List.append_nil, List.nil_append, List.cons_append, cond_true, cond_false, decide_eq_true_eq, slc_s1, slc_s2, slc_s3, slc_t1, slc_t2, slc_t3, slc_l1, slc_l2, slc_l3, chk_i, sliceE, add_ii, sub_ii, mul_ii, fdiv_ii, mod_ii, pow_ii, eq_ii, ne_ii, lt_ii, le_ii, gt_ii, ge_ii, add_ss, add_tt, mul_si, eq_ss, ne_ss, eq_bb, neg_i, abs_i, int_i, int_b, len_s, len_t, len_k, max_ii, min_ii, tr_b, tr_i, tr_s, tr_n, ie_i, is_i, isnt_i, ie_s, is_s, isnt_s, ie_b, is_b, isnt_b, ie_t, is_t, isnt_t, ie_l, is_l, isnt_l, ie_k, is_k, isnt_k, ie_n, is_n, isnt_n, ie_e, in_ss, nin_ss, sub_si, sub_ti, kst, end_rt, end_nx])
          exact ⟨ok, _, by omega, by omega, rfl⟩
        have r8 : Wp (c_row_8 (callF LT (n + 3)) [some (.loc L), some (.int (w : Int)), some (.int k), some (.int kd), some (.int od), some (.str t), some (.int (i : Int)), y]) S' (fun f S3 => Ok L N S S3 ∧ ∃ v : Int, 0 ≤ v ∧ v < w ∧ f = .nx [some (.loc L), some (.int (w : Int)), some (.int k), some (.int kd), some (.int od), some (.str t), some (.int (i : Int)), some (.int v)]) E := by
          unfold c_row_8
          refine wp_ite ?_
          (try simp only [eq_self, decide_true, decide_false, Bool.not_true, Bool.not_false, true_and, and_true, wp_isi, isK, List.any_cons, List.any_nil, Bool.or_false, Bool.false_or, Bool.or_true, Bool.true_or, setS, retS, exprS, cstE, op1E, op2E, opnE, consA, nilA, valT, andT, orT, notT, iteE, andE, orE, notE, callE, methE, m0, m1, one, skipS, brkS, cntS, raiseS, subS, parS, var0, set0, var1, set1, var2, set2, var3, set3, var4, set4, var5, set5, var6, set6, var7, set7, var8, set8, var9, set9, var10, set10, var11, set11, var12, set12, var13, set13, var14, set14, var15, set15, var16, set16, var17, set17, var18, set18, var19, set19, wp_bnd, wpr, wpe, wp_chk, bndr, bnde, List.append_nil, List.nil_append, List.cons_append, cond_true, cond_false, decide_eq_true_eq, slc_s1, slc_s2, slc_s3, slc_t1, slc_t2, slc_t3, slc_l1, slc_l2, slc_l3, chk_i, sliceE, add_ii, sub_ii, mul_ii, fdiv_ii, mod_ii, pow_ii, eq_ii, ne_ii, lt_ii, le_ii, gt_ii, ge_ii, add_ss, add_tt, mul_si, eq_ss, ne_ss, eq_bb, neg_i, abs_i, int_i, int_b, len_s, len_t, len_k, max_ii, min_ii, tr_b, tr_i, tr_s, tr_n, ie_i, is_i, isnt_i, ie_s, is_s, isnt_s, ie_b, is_b, isnt_b, ie_t, is_t, isnt_t, ie_l, is_l, isnt_l, ie_k, is_k, isnt_k, ie_n, is_n, isnt_n, ie_e, in_ss, nin_ss, sub_si, sub_ti, kst, end_rt, end_nx])
          refine ⟨fun _ => ?_, fun _ => ?_⟩
          · unfold c_row_9
            (try simp only [eq_self, decide_true, decide_false, Bool.not_true, Bool.not_false, true_and, and_true, wp_isi, isK, List.any_cons, List.any_nil, Bool.or_false, Bool.false_or, Bool.or_true, Bool.true_or, setS, retS, exprS, cstE, op1E, op2E, opnE, consA, nilA, valT, andT, orT, notT, iteE, andE, orE, notE, callE, methE, m0, m1, one, skipS, brkS, cntS, raiseS, subS, parS, var0, set0, var1, set1, var2, set2, var3, set3, var4, set4, var5, set5, var6, set6, var7, set7, var8, set8, var9, set9, var10, set10, var11, set11, var12, set12, var13, set13, var14, set14, var15, set15, var16, set16, var17, set17, var18, set18, var19, set19, wp_bnd, wpr, wpe, wp_chk, bndr, bnde, List.append_nil, List.nil_append, List.cons_append, cond_true, cond_false, decide_eq_true_eq, slc_s1, slc_s2, slc_s3, slc_t1, slc_t2, slc_t3, slc_l1, slc_l2, slc_l3, chk_i, sliceE, add_ii, sub_ii, mul_ii, fdiv_ii, mod_ii, pow_ii, eq_ii, ne_ii, lt_ii, le_ii, gt_ii, ge_ii, add_ss, add_tt, mul_si, eq_ss, ne_ss, eq_bb, neg_i, abs_i, int_i, int_b, len_s, len_t, len_k, max_ii, min_ii, tr_b, tr_i, tr_s, tr_n, ie_i, is_i, isnt_i, ie_s, is_s, isnt_s, ie_b, is_b, isnt_b, ie_t, is_t, isnt_t, ie_l, is_l, isnt_l, ie_k, is_k, isnt_k, ie_n, is_n, isnt_n, ie_e, in_ss, nin_ss, sub_si, sub_ti, kst, end_rt, end_nx])
            exact ⟨by omega, ok, _, Int.emod_nonneg _ (by omega), Int.emod_lt_of_pos _ (by omega), rfl⟩
          · unfold c_row_10
            (try simp only [eq_self, decide_true, decide_false, Bool.not_true, Bool.not_false, true_and, and_true, wp_isi, isK, List.any_cons, List.any_nil, Bool.or_false, Bool.false_or, Bool.or_true, Bool.true_or, setS, retS, exprS, cstE, op1E, op2E, opnE, consA, nilA, valT, andT, orT, notT, iteE, andE, orE, notE, callE, methE, m0, m1, one, skipS, brkS, cntS, raiseS, subS, parS, var0, set0, var1, set1, var2, set2, var3, set3, var4, set4, var5, set5, var6, set6, var7, set7, var8, set8, var9, set9, var10, set10, var11, set11, var12, set12, var13, set13, var14, set14, var15, set15, var16, set16, var17, set17, var18, set18, var19, set19, wp_bnd, wpr, wpe, wp_chk, bndr, bnde, List.append_nil, List.nil_append, List.cons_append, cond_true, cond_false, decide_eq_true_eq, slc_s1, slc_s2, slc_s3, slc_t1, slc_t2, slc_t3, slc_l1, slc_l2, slc_l3, chk_i, sliceE, add_ii, sub_ii, mul_ii, fdiv_ii, mod_ii, pow_ii, eq_ii, ne_ii, lt_ii, le_ii, gt_ii, ge_ii, add_ss, add_tt, mul_si, eq_ss, ne_ss, eq_bb, neg_i, abs_i, int_i, int_b, len_s, len_t, len_k, max_ii, min_ii, tr_b, tr_i, tr_s, tr_n, ie_i, is_i, isnt_i, ie_s, is_s, isnt_s, ie_b, is_b, isnt_b, ie_t, is_t, isnt_t, ie_l, is_l, isnt_l, ie_k, is_k, isnt_k, ie_n, is_n, isnt_n, ie_e, in_ss, nin_ss, sub_si, sub_ti, kst, end_rt, end_nx])
            refine sp_take ok.1 (by omega) fun r S3 ⟨v, er, v0, v1, v2⟩ st ex => ?_
            subst er
            (try simp only [eq_self, decide_true, decide_false, Bool.not_true, Bool.not_false, true_and, and_true, wp_isi, isK, List.any_cons, List.any_nil, Bool.or_false, Bool.false_or, Bool.or_true, Bool.true_or, setS, retS, exprS, cstE, op1E, op2E, opnE, consA, nilA, valT, andT, orT, notT, iteE, andE, orE, notE, callE, methE, m0, m1, one, skipS, brkS, cntS, raiseS, subS, parS, var0, set0, var1, set1, var2, set2, var3, set3, var4, set4, var5, set5, var6, set6, var7, set7, var8, set8, var9, set9, var10, set10, var11, set11, var12, set12, var13, set13, var14, set14, var15, set15, var16, set16, var17, set17, var18, set18, var19, set19, wp_bnd, wpr, wpe, wp_chk, bndr, bnde, List.append_nil, List.nil_append, List.cons_append, cond_true, cond_false, decide_eq_true_eq, slc_s1, slc_s2, slc_s3, slc_t1, slc_t2, slc_t3, slc_l1, slc_l2, slc_l3, chk_i, sliceE, add_ii, sub_ii, mul_ii, fdiv_ii, mod_ii, pow_ii, eq_ii, ne_ii, lt_ii, le_ii, gt_ii, ge_ii, add_ss, add_tt, mul_si, eq_ss, ne_ss, eq_bb, neg_i, abs_i, int_i, int_b, len_s, len_t, len_k, max_ii, min_ii, tr_b, tr_i, tr_s, tr_n, ie_i, is_i, isnt_i, ie_s, is_s, isnt_s, ie_b, is_b, isnt_b, ie_t, is_t, isnt_t, ie_l, is_l, isnt_l, ie_k, is_k, isnt_k, ie_n, is_n, isnt_n, ie_e, in_ss, nin_ss, sub_si, sub_ti, kst, end_rt, end_nx])
            refine ⟨ok.trans ⟨st, ex⟩, v, v0, ?_, rfl⟩
            by_cases q : 2 ≤ w
            · exact v1 (by omega)
            · have := v2 (by omega); omega
        unfold c_row_6
        refine wp_ite ?_
        simp only [eq_self, decide_true, decide_false, Bool.not_true, Bool.not_false, true_and, and_true, wp_isi, isK, List.any_cons, List.any_nil, Bool.or_false, Bool.false_or, Bool.or_true, Bool.true_or, setS, retS, exprS, cstE, op1E, op2E, opnE, consA, nilA, valT, andT, orT, notT, iteE, andE, orE, notE, callE, methE, m0, m1, one, skipS, brkS, cntS, raiseS, subS, parS, var0, set0, var1, set1, var2, set2, var3, set3, var4, set4, var5, set5, var6, set6, var7, set7, var8, set8, var9, set9, var10, set10, var11, set11, var12, set12, var13, set13, var14, set14, var15, set15, var16, set16, var17, set17, var18, set18, var19, set19, wp_bnd, wpr, wpe, wp_chk, bndr, bnde, List.append_nil, List.nil_append, List.cons_append, cond_true, cond_false, decide_eq_true_eq, slc_s1, slc_s2, slc_s3, slc_t1, slc_t2, slc_t3, slc_l1, slc_l2, slc_l3, chk_i, sliceE, add_ii, sub_ii, mul_ii, fdiv_ii, mod_ii, pow_ii, eq_ii, ne_ii, lt_ii, le_ii, gt_ii, ge_ii, add_ss, add_tt, mul_si, eq_ss, ne_ss, eq_bb, neg_i, abs_i, int_i, int_b, len_s, len_t, len_k, max_ii, min_ii, tr_b, tr_i, tr_s, tr_n, ie_i, is_i, isnt_i, ie_s, is_s, isnt_s, ie_b, is_b, isnt_b, ie_t, is_t, isnt_t, ie_l, is_l, isnt_l, ie_k, is_k, isnt_k, ie_n, is_n, isnt_n, ie_e, in_ss, nin_ss, sub_si, sub_ti, kst, end_rt, end_nx, wp_if]
        cases q : decide (kd = 1) with
        | true => exact ⟨fun _ => r7, fun z => by cases z⟩
        | false =>
          (try simp only [eq_self, decide_true, decide_false, Bool.not_true, Bool.not_false, true_and, and_true, wp_isi, isK, List.any_cons, List.any_nil, Bool.or_false, Bool.false_or, Bool.or_true, Bool.true_or, setS, retS, exprS, cstE, op1E, op2E, opnE, consA, nilA, valT, andT, orT, notT, iteE, andE, orE, notE, callE, methE, m0, m1, one, skipS, brkS, cntS, raiseS, subS, parS, var0, set0, var1, set1, var2, set2, var3, set3, var4, set4, var5, set5, var6, set6, var7, set7, var8, set8, var9, set9, var10, set10, var11, set11, var12, set12, var13, set13, var14, set14, var15, set15, var16, set16, var17, set17, var18, set18, var19, set19, wp_bnd, wpr, wpe, wp_chk, bndr, bnde, List.append_nil, List.nil_append, List.cons_append, cond_true, cond_false, decide_eq_true_eq, slc_s1, slc_s2, slc_s3, slc_t1, slc_t2, slc_t3, slc_l1, slc_l2, slc_l3, chk_i, sliceE, add_ii, sub_ii, mul_ii, fdiv_ii, mod_ii, pow_ii, eq_ii, ne_ii, lt_ii, le_ii, gt_ii, ge_ii, add_ss, add_tt, mul_si, eq_ss, ne_ss, eq_bb, neg_i, abs_i, int_i, int_b, len_s, len_t, len_k, max_ii, min_ii, tr_b, tr_i, tr_s, tr_n, ie_i, is_i, isnt_i, ie_s, is_s, isnt_s, ie_b, is_b, isnt_b, ie_t, is_t, isnt_t, ie_l, is_l, isnt_l, ie_k, is_k, isnt_k, ie_n, is_n, isnt_n, ie_e, in_ss, nin_ss, sub_si, sub_ti, kst, end_rt, end_nx])
          exact ⟨fun _ => r7, fun _ => r8⟩
      have r5 : Wp (c_row_5 (callF LT (n + 3)) [some (.loc L), some (.int (w : Int)), some (.int k), some (.int kd), some (.int od), some (.str t), some (.int (i : Int)), y]) S' (fun f S3 => Ok L N S S3 ∧ ∃ v : Int, 0 ≤ v ∧ v < w ∧ f = .nx [some (.loc L), some (.int (w : Int)), some (.int k), some (.int kd), some (.int od), some (.str t), some (.int (i : Int)), some (.int v)]) E := by
        unfold c_row_5
        (try simp only [eq_self, decide_true, decide_false, Bool.not_true, Bool.not_false, true_and, and_true, wp_isi, isK, List.any_cons, List.any_nil, Bool.or_false, Bool.false_or, Bool.or_true, Bool.true_or, setS, retS, exprS, cstE, op1E, op2E, opnE, consA, nilA, valT, andT, orT, notT, iteE, andE, orE, notE, callE, methE, m0, m1, one, skipS, brkS, cntS, raiseS, subS, parS, var0, set0, var1, set1, var2, set2, var3, set3, var4, set4, var5, set5, var6, set6, var7, set7, var8, set8, var9, set9, var10, set10, var11, set11, var12, set12, var13, set13, var14, set14, var15, set15, var16, set16, var17, set17, var18, set18, var19, set19, wp_bnd, wpr, wpe, wp_chk, bndr, bnde, List.append_nil, List.nil_append, List.cons_append, cond_true, cond_false, decide_eq_true_eq, slc_s1, slc_s2, slc_s3, slc_t1, slc_t2, slc_t3, slc_l1, slc_l2, slc_l3, chk_i, sliceE, add_ii, sub_ii, mul_ii, fdiv_ii, mod_ii, pow_ii, eq_ii, ne_ii, lt_ii, le_ii, gt_ii, ge_ii, add_ss, add_tt, mul_si, eq_ss, ne_ss, eq_bb, neg_i, abs_i, int_i, int_b, len_s, len_t, len_k, max_ii, min_ii, tr_b, tr_i, tr_s, tr_n, ie_i, is_i, isnt_i, ie_s, is_s, isnt_s, ie_b, is_b, isnt_b, ie_t, is_t, isnt_t, ie_l, is_l, isnt_l, ie_k, is_k, isnt_k, ie_n, is_n, isnt_n, ie_e, in_ss, nin_ss, sub_si, sub_ti, kst, end_rt, end_nx])
        exact ⟨ok, _, by omega, by omega, rfl⟩
      unfold c_row_4
      refine wp_ite ?_
      simp only [eq_self, decide_true, decide_false, Bool.not_true, Bool.not_false, true_and, and_true, wp_isi, isK, List.any_cons, List.any_nil, Bool.or_false, Bool.false_or, Bool.or_true, Bool.true_or, setS, retS, exprS, cstE, op1E, op2E, opnE, consA, nilA, valT, andT, orT, notT, iteE, andE, orE, notE, callE, methE, m0, m1, one, skipS, brkS, cntS, raiseS, subS, parS, var0, set0, var1, set1, var2, set2, var3, set3, var4, set4, var5, set5, var6, set6, var7, set7, var8, set8, var9, set9, var10, set10, var11, set11, var12, set12, var13, set13, var14, set14, var15, set15, var16, set16, var17, set17, var18, set18, var19, set19, wp_bnd, wpr, wpe, wp_chk, bndr, bnde, List.append_nil, List.nil_append, List.cons_append, cond_true, cond_false, decide_eq_true_eq, slc_s1, slc_s2, slc_s3, slc_t1, slc_t2, slc_t3, slc_l1, slc_l2, slc_l3, chk_i, sliceE, add_ii, sub_ii, mul_ii, fdiv_ii, mod_ii, pow_ii, eq_ii, ne_ii, lt_ii, le_ii, gt_ii, ge_ii, add_ss, add_tt, mul_si, eq_ss, ne_ss, eq_bb, neg_i, abs_i, int_i, int_b, len_s, len_t, len_k, max_ii, min_ii, tr_b, tr_i, tr_s, tr_n, ie_i, is_i, isnt_i, ie_s, is_s, isnt_s, ie_b, is_b, isnt_b, ie_t, is_t, isnt_t, ie_l, is_l, isnt_l, ie_k, is_k, isnt_k, ie_n, is_n, isnt_n, ie_e, in_ss, nin_ss, sub_si, sub_ti, kst, end_rt, end_nx, wp_if]
      cases q : decide (kd = 0) with
      | true => exact ⟨fun _ => r5, fun z => by cases z⟩
      | false =>
        cases q2 : decide (kd = 3) with
        | true =>
          simp only [eq_self, decide_true, decide_false, Bool.not_true, Bool.not_false, true_and, and_true, wp_isi, isK, List.any_cons, List.any_nil, Bool.or_false, Bool.false_or, Bool.or_true, Bool.true_or, setS, retS, exprS, cstE, op1E, op2E, opnE, consA, nilA, valT, andT, orT, notT, iteE, andE, orE, notE, callE, methE, m0, m1, one, skipS, brkS, cntS, raiseS, subS, parS, var0, set0, var1, set1, var2, set2, var3, set3, var4, set4, var5, set5, var6, set6, var7, set7, var8, set8, var9, set9, var10, set10, var11, set11, var12, set12, var13, set13, var14, set14, var15, set15, var16, set16, var17, set17, var18, set18, var19, set19, wp_bnd, wpr, wpe, wp_chk, bndr, bnde, List.append_nil, List.nil_append, List.cons_append, cond_true, cond_false, decide_eq_true_eq, slc_s1, slc_s2, slc_s3, slc_t1, slc_t2, slc_t3, slc_l1, slc_l2, slc_l3, chk_i, sliceE, add_ii, sub_ii, mul_ii, fdiv_ii, mod_ii, pow_ii, eq_ii, ne_ii, lt_ii, le_ii, gt_ii, ge_ii, add_ss, add_tt, mul_si, eq_ss, ne_ss, eq_bb, neg_i, abs_i, int_i, int_b, len_s, len_t, len_k, max_ii, min_ii, tr_b, tr_i, tr_s, tr_n, ie_i, is_i, isnt_i, ie_s, is_s, isnt_s, ie_b, is_b, isnt_b, ie_t, is_t, isnt_t, ie_l, is_l, isnt_l, ie_k, is_k, isnt_k, ie_n, is_n, isnt_n, ie_e, in_ss, nin_ss, sub_si, sub_ti, kst, end_rt, end_nx]
          exact ⟨fun _ => r5, fun _ => r6⟩
        | false =>
          simp only [eq_self, decide_true, decide_false, Bool.not_true, Bool.not_false, true_and, and_true, wp_isi, isK, List.any_cons, List.any_nil, Bool.or_false, Bool.false_or, Bool.or_true, Bool.true_or, setS, retS, exprS, cstE, op1E, op2E, opnE, consA, nilA, valT, andT, orT, notT, iteE, andE, orE, notE, callE, methE, m0, m1, one, skipS, brkS, cntS, raiseS, subS, parS, var0, set0, var1, set1, var2, set2, var3, set3, var4, set4, var5, set5, var6, set6, var7, set7, var8, set8, var9, set9, var10, set10, var11, set11, var12, set12, var13, set13, var14, set14, var15, set15, var16, set16, var17, set17, var18, set18, var19, set19, wp_bnd, wpr, wpe, wp_chk, bndr, bnde, List.append_nil, List.nil_append, List.cons_append, cond_true, cond_false, decide_eq_true_eq, slc_s1, slc_s2, slc_s3, slc_t1, slc_t2, slc_t3, slc_l1, slc_l2, slc_l3, chk_i, sliceE, add_ii, sub_ii, mul_ii, fdiv_ii, mod_ii, pow_ii, eq_ii, ne_ii, lt_ii, le_ii, gt_ii, ge_ii, add_ss, add_tt, mul_si, eq_ss, ne_ss, eq_bb, neg_i, abs_i, int_i, int_b, len_s, len_t, len_k, max_ii, min_ii, tr_b, tr_i, tr_s, tr_n, ie_i, is_i, isnt_i, ie_s, is_s, isnt_s, ie_b, is_b, isnt_b, ie_t, is_t, isnt_t, ie_l, is_l, isnt_l, ie_k, is_k, isnt_k, ie_n, is_n, isnt_n, ie_e, in_ss, nin_ss, sub_si, sub_ti, kst, end_rt, end_nx]
          exact ⟨(fun z => by cases z), fun _ => r6⟩
    refine wp_seq ?_
    simp only [List.set]
    refine wp_mono s1 (fun f S3 ⟨ok3, v, v0, v1, ef⟩ => ?_) fun _ _ _ z => z
    subst ef
    unfold c_row_11
    simp only [eq_self, decide_true, decide_false, Bool.not_true, Bool.not_false, true_and, and_true, wp_isi, isK, List.any_cons, List.any_nil, Bool.or_false, Bool.false_or, Bool.or_true, Bool.true_or, setS, retS, exprS, cstE, op1E, op2E, opnE, consA, nilA, valT, andT, orT, notT, iteE, andE, orE, notE, callE, methE, m0, m1, one, skipS, brkS, cntS, raiseS, subS, parS, var0, set0, var1, set1, var2, set2, var3, set3, var4, set4, var5, set5, var6, set6, var7, set7, var8, set8, var9, set9, var10, set10, var11, set11, var12, set12, var13, set13, var14, set14, var15, set15, var16, set16, var17, set17, var18, set18, var19, set19, wp_bnd, wpr, wpe, wp_chk, bndr, bnde, List.append_nil, List.nil_append, List.cons_append, cond_true, cond_false, decide_eq_true_eq, slc_s1, slc_s2, slc_s3, slc_t1, slc_t2, slc_t3, slc_l1, slc_l2, slc_l3, chk_i, sliceE, add_ii, sub_ii, mul_ii, fdiv_ii, mod_ii, pow_ii, eq_ii, ne_ii, lt_ii, le_ii, gt_ii, ge_ii, add_ss, add_tt, mul_si, eq_ss, ne_ss, eq_bb, neg_i, abs_i, int_i, int_b, len_s, len_t, len_k, max_ii, min_ii, tr_b, tr_i, tr_s, tr_n, ie_i, is_i, isnt_i, ie_s, is_s, isnt_s, ie_b, is_b, isnt_b, ie_t, is_t, isnt_t, ie_l, is_l, isnt_l, ie_k, is_k, isnt_k, ie_n, is_n, isnt_n, ie_e, in_ss, nin_ss, sub_si, sub_ti, kst, end_rt, end_nx, str_1 (show 0 ≤ v ∧ v < 10 by omega)]
    exact ⟨by rw [et, List.length_singleton]; show _ ≤ 16777216; omega, ok3, _, _, _, by rw [List.length_append, et]; rfl, tx_snoc ht (by omega), rfl⟩
  · subst eδ
    unfold c_row_12
    (try simp only [eq_self, decide_true, decide_false, Bool.not_true, Bool.not_false, true_and, and_true, wp_isi, isK, List.any_cons, List.any_nil, Bool.or_false, Bool.false_or, Bool.or_true, Bool.true_or, setS, retS, exprS, cstE, op1E, op2E, opnE, consA, nilA, valT, andT, orT, notT, iteE, andE, orE, notE, callE, methE, m0, m1, one, skipS, brkS, cntS, raiseS, subS, parS, var0, set0, var1, set1, var2, set2, var3, set3, var4, set4, var5, set5, var6, set6, var7, set7, var8, set8, var9, set9, var10, set10, var11, set11, var12, set12, var13, set13, var14, set14, var15, set15, var16, set16, var17, set17, var18, set18, var19, set19, wp_bnd, wpr, wpe, wp_chk, bndr, bnde, List.append_nil, List.nil_append, List.cons_append, cond_true, cond_false, decide_eq_true_eq, slc_s1, slc_s2, slc_s3, slc_t1, slc_t2, slc_t3, slc_l1, slc_l2, slc_l3, chk_i, sliceE, add_ii, sub_ii, mul_ii, fdiv_ii, mod_ii, pow_ii, eq_ii, ne_ii, lt_ii, le_ii, gt_ii, ge_ii, add_ss, add_tt, mul_si, eq_ss, ne_ss, eq_bb, neg_i, abs_i, int_i, int_b, len_s, len_t, len_k, max_ii, min_ii, tr_b, tr_i, tr_s, tr_n, ie_i, is_i, isnt_i, ie_s, is_s, isnt_s, ie_b, is_b, isnt_b, ie_t, is_t, isnt_t, ie_l, is_l, isnt_l, ie_k, is_k, isnt_k, ie_n, is_n, isnt_n, ie_e, in_ss, nin_ss, sub_si, sub_ti, kst, end_rt, end_nx])
    exact hq _ _ et ht ok
theorem okT_no {w m c : Nat} {t : List Nat} (hc : c ∈ t) (h : (sg w).contains c = false) : okT w m t = false := by
  cases q : okT w m t with
  | false => rfl
  | true =>
    unfold okT at q
    rw [Bool.and_eq_true, List.all_eq_true] at q
    rw [q.2 c hc] at h
    cases h
theorem wp_1 {l : Nat} {bs : List (List Nat)} {i : Int} {S : Store} {Q : D → Store → Prop} {E : Nat → List D → Store → Prop} (h : S[l]? = some (.lst true (bs.map .str))) (h0 : 0 ≤ i) (h1 : i.toNat < bs.length) (hq : Q (.str (bs[i.toNat]'h1)) S) : Wp (subsD (.loc l) (.int i)) S Q E := by
  have e : (bs.map D.str)[i.toNat]? = some (.str bs[i.toNat]) := by rw [List.getElem?_map, List.getElem?_eq_getElem h1]; rfl
  rw [wp_subl h, show i = ((i.toNat : Nat) : Int) by omega, wp_atL e]
  exact hq
theorem sp_bad_text {n L N w : Nat} {S : Store} {Q : D → Store → Prop} {E : Nat → List D → Store → Prop} (h : StO L N S) (lo : 1 ≤ w) (hi : w ≤ 5) (hq : ∀ t S', okT w (most w) t = false → t.length ≤ 100 → Ok L N S S' → Q (.str t) S') : Wp (callF LT (n + 4) i_bad_text [.loc L, .str (sg w), .int 0, .int (most w : Nat)]) S Q E := by
  have hm := most_lt lo hi
  rw [e_bad_text]
  unfold c_bad_text
  refine wp_def (wp_seq ?_)
  unfold c_bad_text_0
  (try simp only [eq_self, decide_true, decide_false, Bool.not_true, Bool.not_false, true_and, and_true, wp_isi, isK, List.any_cons, List.any_nil, Bool.or_false, Bool.false_or, Bool.or_true, Bool.true_or, setS, retS, exprS, cstE, op1E, op2E, opnE, consA, nilA, valT, andT, orT, notT, iteE, andE, orE, notE, callE, methE, m0, m1, one, skipS, brkS, cntS, raiseS, subS, parS, var0, set0, var1, set1, var2, set2, var3, set3, var4, set4, var5, set5, var6, set6, var7, set7, var8, set8, var9, set9, var10, set10, var11, set11, var12, set12, var13, set13, var14, set14, var15, set15, var16, set16, var17, set17, var18, set18, var19, set19, wp_bnd, wpr, wpe, wp_chk, bndr, bnde, List.append_nil, List.nil_append, List.cons_append, cond_true, cond_false, decide_eq_true_eq, slc_s1, slc_s2, slc_s3, slc_t1, slc_t2, slc_t3, slc_l1, slc_l2, slc_l3, chk_i, sliceE, add_ii, sub_ii, mul_ii, fdiv_ii, mod_ii, pow_ii, eq_ii, ne_ii, lt_ii, le_ii, gt_ii, ge_ii, add_ss, add_tt, mul_si, eq_ss, ne_ss, eq_bb, neg_i, abs_i, int_i, int_b, len_s, len_t, len_k, max_ii, min_ii, tr_b, tr_i, tr_s, tr_n, ie_i, is_i, isnt_i, ie_s, is_s, isnt_s, ie_b, is_b, isnt_b, ie_t, is_t, isnt_t, ie_l, is_l, isnt_l, ie_k, is_k, isnt_k, ie_n, is_n, isnt_n, ie_e, in_ss, nin_ss, sub_si, sub_ti, kst, end_rt, end_nx])
  refine sp_take h (by decide) fun r S1 ⟨kd, er, k0, _⟩ st ex => ?_
  subst er
  have ok1 : Ok L N S S1 := ⟨st, ex⟩
  clear st ex
  (try simp only [eq_self, decide_true, decide_false, Bool.not_true, Bool.not_false, true_and, and_true, wp_isi, isK, List.any_cons, List.any_nil, Bool.or_false, Bool.false_or, Bool.or_true, Bool.true_or, setS, retS, exprS, cstE, op1E, op2E, opnE, consA, nilA, valT, andT, orT, notT, iteE, andE, orE, notE, callE, methE, m0, m1, one, skipS, brkS, cntS, raiseS, subS, parS, var0, set0, var1, set1, var2, set2, var3, set3, var4, set4, var5, set5, var6, set6, var7, set7, var8, set8, var9, set9, var10, set10, var11, set11, var12, set12, var13, set13, var14, set14, var15, set15, var16, set16, var17, set17, var18, set18, var19, set19, wp_bnd, wpr, wpe, wp_chk, bndr, bnde, List.append_nil, List.nil_append, List.cons_append, cond_true, cond_false, decide_eq_true_eq, slc_s1, slc_s2, slc_s3, slc_t1, slc_t2, slc_t3, slc_l1, slc_l2, slc_l3, chk_i, sliceE, add_ii, sub_ii, mul_ii, fdiv_ii, mod_ii, pow_ii, eq_ii, ne_ii, lt_ii, le_ii, gt_ii, ge_ii, add_ss, add_tt, mul_si, eq_ss, ne_ss, eq_bb, neg_i, abs_i, int_i, int_b, len_s, len_t, len_k, max_ii, min_ii, tr_b, tr_i, tr_s, tr_n, ie_i, is_i, isnt_i, ie_s, is_s, isnt_s, ie_b, is_b, isnt_b, ie_t, is_t, isnt_t, ie_l, is_l, isnt_l, ie_k, is_k, isnt_k, ie_n, is_n, isnt_n, ie_e, in_ss, nin_ss, sub_si, sub_ti, kst, end_rt, end_nx])
  refine wp_seq ?_
  unfold c_bad_text_1
  refine wp_ite ?_
  simp only [eq_self, decide_true, decide_false, Bool.not_true, Bool.not_false, true_and, and_true, wp_isi, isK, List.any_cons, List.any_nil, Bool.or_false, Bool.false_or, Bool.or_true, Bool.true_or, setS, retS, exprS, cstE, op1E, op2E, opnE, consA, nilA, valT, andT, orT, notT, iteE, andE, orE, notE, callE, methE, m0, m1, one, skipS, brkS, cntS, raiseS, subS, parS, var0, set0, var1, set1, var2, set2, var3, set3, var4, set4, var5, set5, var6, set6, var7, set7, var8, set8, var9, set9, var10, set10, var11, set11, var12, set12, var13, set13, var14, set14, var15, set15, var16, set16, var17, set17, var18, set18, var19, set19, wp_bnd, wpr, wpe, wp_chk, bndr, bnde, List.append_nil, List.nil_append, List.cons_append, cond_true, cond_false, decide_eq_true_eq, slc_s1, slc_s2, slc_s3, slc_t1, slc_t2, slc_t3, slc_l1, slc_l2, slc_l3, chk_i, sliceE, add_ii, sub_ii, mul_ii, fdiv_ii, mod_ii, pow_ii, eq_ii, ne_ii, lt_ii, le_ii, gt_ii, ge_ii, add_ss, add_tt, mul_si, eq_ss, ne_ss, eq_bb, neg_i, abs_i, int_i, int_b, len_s, len_t, len_k, max_ii, min_ii, tr_b, tr_i, tr_s, tr_n, ie_i, is_i, isnt_i, ie_s, is_s, isnt_s, ie_b, is_b, isnt_b, ie_t, is_t, isnt_t, ie_l, is_l, isnt_l, ie_k, is_k, isnt_k, ie_n, is_n, isnt_n, ie_e, in_ss, nin_ss, sub_si, sub_ti, kst, end_rt, end_nx, wp_if]
  have n0 : decide (((most w : Nat) : Int) < 0) = false := decide_eq_false (by omega)
  cases q : decide (kd = 0) with
  | true =>
    simp only [eq_self, decide_true, decide_false, Bool.not_true, Bool.not_false, true_and, and_true, wp_isi, isK, List.any_cons, List.any_nil, Bool.or_false, Bool.false_or, Bool.or_true, Bool.true_or, setS, retS, exprS, cstE, op1E, op2E, opnE, consA, nilA, valT, andT, orT, notT, iteE, andE, orE, notE, callE, methE, m0, m1, one, skipS, brkS, cntS, raiseS, subS, parS, var0, set0, var1, set1, var2, set2, var3, set3, var4, set4, var5, set5, var6, set6, var7, set7, var8, set8, var9, set9, var10, set10, var11, set11, var12, set12, var13, set13, var14, set14, var15, set15, var16, set16, var17, set17, var18, set18, var19, set19, wp_bnd, wpr, wpe, wp_chk, bndr, bnde, List.append_nil, List.nil_append, List.cons_append, cond_true, cond_false, decide_eq_true_eq, slc_s1, slc_s2, slc_s3, slc_t1, slc_t2, slc_t3, slc_l1, slc_l2, slc_l3, chk_i, sliceE, add_ii, sub_ii, mul_ii, fdiv_ii, mod_ii, pow_ii, eq_ii, ne_ii, lt_ii, le_ii, gt_ii, ge_ii, add_ss, add_tt, mul_si, eq_ss, ne_ss, eq_bb, neg_i, abs_i, int_i, int_b, len_s, len_t, len_k, max_ii, min_ii, tr_b, tr_i, tr_s, tr_n, ie_i, is_i, isnt_i, ie_s, is_s, isnt_s, ie_b, is_b, isnt_b, ie_t, is_t, isnt_t, ie_l, is_l, isnt_l, ie_k, is_k, isnt_k, ie_n, is_n, isnt_n, ie_e, in_ss, nin_ss, sub_si, sub_ti, kst, end_rt, end_nx]
    refine ⟨fun _ => ?_, fun z => by cases z⟩
    unfold c_bad_text_2
    (try simp only [eq_self, decide_true, decide_false, Bool.not_true, Bool.not_false, true_and, and_true, wp_isi, isK, List.any_cons, List.any_nil, Bool.or_false, Bool.false_or, Bool.or_true, Bool.true_or, setS, retS, exprS, cstE, op1E, op2E, opnE, consA, nilA, valT, andT, orT, notT, iteE, andE, orE, notE, callE, methE, m0, m1, one, skipS, brkS, cntS, raiseS, subS, parS, var0, set0, var1, set1, var2, set2, var3, set3, var4, set4, var5, set5, var6, set6, var7, set7, var8, set8, var9, set9, var10, set10, var11, set11, var12, set12, var13, set13, var14, set14, var15, set15, var16, set16, var17, set17, var18, set18, var19, set19, wp_bnd, wpr, wpe, wp_chk, bndr, bnde, List.append_nil, List.nil_append, List.cons_append, cond_true, cond_false, decide_eq_true_eq, slc_s1, slc_s2, slc_s3, slc_t1, slc_t2, slc_t3, slc_l1, slc_l2, slc_l3, chk_i, sliceE, add_ii, sub_ii, mul_ii, fdiv_ii, mod_ii, pow_ii, eq_ii, ne_ii, lt_ii, le_ii, gt_ii, ge_ii, add_ss, add_tt, mul_si, eq_ss, ne_ss, eq_bb, neg_i, abs_i, int_i, int_b, len_s, len_t, len_k, max_ii, min_ii, tr_b, tr_i, tr_s, tr_n, ie_i, is_i, isnt_i, ie_s, is_s, isnt_s, ie_b, is_b, isnt_b, ie_t, is_t, isnt_t, ie_l, is_l, isnt_l, ie_k, is_k, isnt_k, ie_n, is_n, isnt_n, ie_e, in_ss, nin_ss, sub_si, sub_ti, kst, end_rt, end_nx])
    refine sp_take ok1.1 (by decide) fun r S2 ⟨v, er, v0, v1, _⟩ st ex => ?_
    subst er
    have v1 := v1 (by decide)
    have ok2 := ok1.trans ⟨st, ex⟩
    (try simp only [eq_self, decide_true, decide_false, Bool.not_true, Bool.not_false, true_and, and_true, wp_isi, isK, List.any_cons, List.any_nil, Bool.or_false, Bool.false_or, Bool.or_true, Bool.true_or, setS, retS, exprS, cstE, op1E, op2E, opnE, consA, nilA, valT, andT, orT, notT, iteE, andE, orE, notE, callE, methE, m0, m1, one, skipS, brkS, cntS, raiseS, subS, parS, var0, set0, var1, set1, var2, set2, var3, set3, var4, set4, var5, set5, var6, set6, var7, set7, var8, set8, var9, set9, var10, set10, var11, set11, var12, set12, var13, set13, var14, set14, var15, set15, var16, set16, var17, set17, var18, set18, var19, set19, wp_bnd, wpr, wpe, wp_chk, bndr, bnde, List.append_nil, List.nil_append, List.cons_append, cond_true, cond_false, decide_eq_true_eq, slc_s1, slc_s2, slc_s3, slc_t1, slc_t2, slc_t3, slc_l1, slc_l2, slc_l3, chk_i, sliceE, add_ii, sub_ii, mul_ii, fdiv_ii, mod_ii, pow_ii, eq_ii, ne_ii, lt_ii, le_ii, gt_ii, ge_ii, add_ss, add_tt, mul_si, eq_ss, ne_ss, eq_bb, neg_i, abs_i, int_i, int_b, len_s, len_t, len_k, max_ii, min_ii, tr_b, tr_i, tr_s, tr_n, ie_i, is_i, isnt_i, ie_s, is_s, isnt_s, ie_b, is_b, isnt_b, ie_t, is_t, isnt_t, ie_l, is_l, isnt_l, ie_k, is_k, isnt_k, ie_n, is_n, isnt_n, ie_e, in_ss, nin_ss, sub_si, sub_ti, kst, end_rt, end_nx])
    refine sp_free2 ok2.1 (by rw [sg_len]; omega) (by rw [sg_len]; omega) ⟨by omega, by omega⟩ fun t S3 et _ ok3 => ?_
    (try simp only [eq_self, decide_true, decide_false, Bool.not_true, Bool.not_false, true_and, and_true, wp_isi, isK, List.any_cons, List.any_nil, Bool.or_false, Bool.false_or, Bool.or_true, Bool.true_or, setS, retS, exprS, cstE, op1E, op2E, opnE, consA, nilA, valT, andT, orT, notT, iteE, andE, orE, notE, callE, methE, m0, m1, one, skipS, brkS, cntS, raiseS, subS, parS, var0, set0, var1, set1, var2, set2, var3, set3, var4, set4, var5, set5, var6, set6, var7, set7, var8, set8, var9, set9, var10, set10, var11, set11, var12, set12, var13, set13, var14, set14, var15, set15, var16, set16, var17, set17, var18, set18, var19, set19, wp_bnd, wpr, wpe, wp_chk, bndr, bnde, List.append_nil, List.nil_append, List.cons_append, cond_true, cond_false, decide_eq_true_eq, slc_s1, slc_s2, slc_s3, slc_t1, slc_t2, slc_t3, slc_l1, slc_l2, slc_l3, chk_i, sliceE, add_ii, sub_ii, mul_ii, fdiv_ii, mod_ii, pow_ii, eq_ii, ne_ii, lt_ii, le_ii, gt_ii, ge_ii, add_ss, add_tt, mul_si, eq_ss, ne_ss, eq_bb, neg_i, abs_i, int_i, int_b, len_s, len_t, len_k, max_ii, min_ii, tr_b, tr_i, tr_s, tr_n, ie_i, is_i, isnt_i, ie_s, is_s, isnt_s, ie_b, is_b, isnt_b, ie_t, is_t, isnt_t, ie_l, is_l, isnt_l, ie_k, is_k, isnt_k, ie_n, is_n, isnt_n, ie_e, in_ss, nin_ss, sub_si, sub_ti, kst, end_rt, end_nx])
    exact hq _ _ (by unfold okT; rw [decide_eq_false (by omega)]; rfl) (by omega) (ok2.trans ok3)
  | false =>
  simp only [eq_self, decide_true, decide_false, Bool.not_true, Bool.not_false, true_and, and_true, wp_isi, isK, List.any_cons, List.any_nil, Bool.or_false, Bool.false_or, Bool.or_true, Bool.true_or, setS, retS, exprS, cstE, op1E, op2E, opnE, consA, nilA, valT, andT, orT, notT, iteE, andE, orE, notE, callE, methE, m0, m1, one, skipS, brkS, cntS, raiseS, subS, parS, var0, set0, var1, set1, var2, set2, var3, set3, var4, set4, var5, set5, var6, set6, var7, set7, var8, set8, var9, set9, var10, set10, var11, set11, var12, set12, var13, set13, var14, set14, var15, set15, var16, set16, var17, set17, var18, set18, var19, set19, wp_bnd, wpr, wpe, wp_chk, bndr, bnde, List.append_nil, List.nil_append, List.cons_append, cond_true, cond_false, decide_eq_true_eq, slc_s1, slc_s2, slc_s3, slc_t1, slc_t2, slc_t3, slc_l1, slc_l2, slc_l3, chk_i, sliceE, add_ii, sub_ii, mul_ii, fdiv_ii, mod_ii, pow_ii, eq_ii, ne_ii, lt_ii, le_ii, gt_ii, ge_ii, add_ss, add_tt, mul_si, eq_ss, ne_ss, eq_bb, neg_i, abs_i, int_i, int_b, len_s, len_t, len_k, max_ii, min_ii, tr_b, tr_i, tr_s, tr_n, ie_i, is_i, isnt_i, ie_s, is_s, isnt_s, ie_b, is_b, isnt_b, ie_t, is_t, isnt_t, ie_l, is_l, isnt_l, ie_k, is_k, isnt_k, ie_n, is_n, isnt_n, ie_e, in_ss, nin_ss, sub_si, sub_ti, kst, end_rt, end_nx, n0]
  refine ⟨(fun z => by cases z), fun _ => wp_seq ?_⟩
  unfold c_bad_text_3
  refine wp_ite ?_
  simp only [eq_self, decide_true, decide_false, Bool.not_true, Bool.not_false, true_and, and_true, wp_isi, isK, List.any_cons, List.any_nil, Bool.or_false, Bool.false_or, Bool.or_true, Bool.true_or, setS, retS, exprS, cstE, op1E, op2E, opnE, consA, nilA, valT, andT, orT, notT, iteE, andE, orE, notE, callE, methE, m0, m1, one, skipS, brkS, cntS, raiseS, subS, parS, var0, set0, var1, set1, var2, set2, var3, set3, var4, set4, var5, set5, var6, set6, var7, set7, var8, set8, var9, set9, var10, set10, var11, set11, var12, set12, var13, set13, var14, set14, var15, set15, var16, set16, var17, set17, var18, set18, var19, set19, wp_bnd, wpr, wpe, wp_chk, bndr, bnde, List.append_nil, List.nil_append, List.cons_append, cond_true, cond_false, decide_eq_true_eq, slc_s1, slc_s2, slc_s3, slc_t1, slc_t2, slc_t3, slc_l1, slc_l2, slc_l3, chk_i, sliceE, add_ii, sub_ii, mul_ii, fdiv_ii, mod_ii, pow_ii, eq_ii, ne_ii, lt_ii, le_ii, gt_ii, ge_ii, add_ss, add_tt, mul_si, eq_ss, ne_ss, eq_bb, neg_i, abs_i, int_i, int_b, len_s, len_t, len_k, max_ii, min_ii, tr_b, tr_i, tr_s, tr_n, ie_i, is_i, isnt_i, ie_s, is_s, isnt_s, ie_b, is_b, isnt_b, ie_t, is_t, isnt_t, ie_l, is_l, isnt_l, ie_k, is_k, isnt_k, ie_n, is_n, isnt_n, ie_e, in_ss, nin_ss, sub_si, sub_ti, kst, end_rt, end_nx, wp_if]
  have done : Wp (skipS [some (.loc L), some (.str (sg w)), some (.int 0), some (.int (most w : Nat)), some (.int kd), none, none, none, none, none]) S1 (fun f S2 => f = .nx [some (.loc L), some (.str (sg w)), some (.int 0), some (.int (most w : Nat)), some (.int kd), none, none, none, none, none] ∧ S2 = S1) E := ⟨rfl, rfl⟩
  have two : decide ((0 : Int) > 0) = false := rfl
  have rest : Wp (seqS (c_bad_text_5 (callF LT (n + 3))) (seqS (c_bad_text_6 (callF LT (n + 3))) (seqS (c_bad_text_7 (callF LT (n + 3))) (seqS (c_bad_text_8 (callF LT (n + 3))) (seqS (c_bad_text_9 (callF LT (n + 3))) (seqS (c_bad_text_10 (callF LT (n + 3))) (seqS (c_bad_text_13 (callF LT (n + 3))) (c_bad_text_15 (callF LT (n + 3))))))))) [some (.loc L), some (.str (sg w)), some (.int 0), some (.int (most w : Nat)), some (.int kd), none, none, none, none, none]) S1 (fun f S' => match f with
    | .rt d => Q d S'
    | .nx _ => Q .non S'
    | _ => False) E := by
    refine wp_seq ?_
    unfold c_bad_text_5
    have m0 : (if (0 : Int) > 1 then (0 : Int) else 1) = 1 := rfl
    have m1 : (if ((most w : Nat) : Int) > 1 then ((most w : Nat) : Int) else 1) = (most w : Nat) := if_pos (by omega)
    simp only [eq_self, decide_true, decide_false, Bool.not_true, Bool.not_false, true_and, and_true, wp_isi, isK, List.any_cons, List.any_nil, Bool.or_false, Bool.false_or, Bool.or_true, Bool.true_or, setS, retS, exprS, cstE, op1E, op2E, opnE, consA, nilA, valT, andT, orT, notT, iteE, andE, orE, notE, callE, methE, m0, m1, one, skipS, brkS, cntS, raiseS, subS, parS, var0, set0, var1, set1, var2, set2, var3, set3, var4, set4, var5, set5, var6, set6, var7, set7, var8, set8, var9, set9, var10, set10, var11, set11, var12, set12, var13, set13, var14, set14, var15, set15, var16, set16, var17, set17, var18, set18, var19, set19, wp_bnd, wpr, wpe, wp_chk, bndr, bnde, List.append_nil, List.nil_append, List.cons_append, cond_true, cond_false, decide_eq_true_eq, slc_s1, slc_s2, slc_s3, slc_t1, slc_t2, slc_t3, slc_l1, slc_l2, slc_l3, chk_i, sliceE, add_ii, sub_ii, mul_ii, fdiv_ii, mod_ii, pow_ii, eq_ii, ne_ii, lt_ii, le_ii, gt_ii, ge_ii, add_ss, add_tt, mul_si, eq_ss, ne_ss, eq_bb, neg_i, abs_i, int_i, int_b, len_s, len_t, len_k, max_ii, min_ii, tr_b, tr_i, tr_s, tr_n, ie_i, is_i, isnt_i, ie_s, is_s, isnt_s, ie_b, is_b, isnt_b, ie_t, is_t, isnt_t, ie_l, is_l, isnt_l, ie_k, is_k, isnt_k, ie_n, is_n, isnt_n, ie_e, in_ss, nin_ss, sub_si, sub_ti, kst, end_rt, end_nx, m0, m1]
    refine sp_take ok1.1 (by omega) fun r S2 ⟨v, er, v0, v1, v2⟩ st ex => ?_
    subst er
    have ok2 := ok1.trans ⟨st, ex⟩
    clear st ex
    have v1 := v1 (by omega)
    (try simp only [eq_self, decide_true, decide_false, Bool.not_true, Bool.not_false, true_and, and_true, wp_isi, isK, List.any_cons, List.any_nil, Bool.or_false, Bool.false_or, Bool.or_true, Bool.true_or, setS, retS, exprS, cstE, op1E, op2E, opnE, consA, nilA, valT, andT, orT, notT, iteE, andE, orE, notE, callE, methE, m0, m1, one, skipS, brkS, cntS, raiseS, subS, parS, var0, set0, var1, set1, var2, set2, var3, set3, var4, set4, var5, set5, var6, set6, var7, set7, var8, set8, var9, set9, var10, set10, var11, set11, var12, set12, var13, set13, var14, set14, var15, set15, var16, set16, var17, set17, var18, set18, var19, set19, wp_bnd, wpr, wpe, wp_chk, bndr, bnde, List.append_nil, List.nil_append, List.cons_append, cond_true, cond_false, decide_eq_true_eq, slc_s1, slc_s2, slc_s3, slc_t1, slc_t2, slc_t3, slc_l1, slc_l2, slc_l3, chk_i, sliceE, add_ii, sub_ii, mul_ii, fdiv_ii, mod_ii, pow_ii, eq_ii, ne_ii, lt_ii, le_ii, gt_ii, ge_ii, add_ss, add_tt, mul_si, eq_ss, ne_ss, eq_bb, neg_i, abs_i, int_i, int_b, len_s, len_t, len_k, max_ii, min_ii, tr_b, tr_i, tr_s, tr_n, ie_i, is_i, isnt_i, ie_s, is_s, isnt_s, ie_b, is_b, isnt_b, ie_t, is_t, isnt_t, ie_l, is_l, isnt_l, ie_k, is_k, isnt_k, ie_n, is_n, isnt_n, ie_e, in_ss, nin_ss, sub_si, sub_ti, kst, end_rt, end_nx])
    refine wp_seq ?_
    unfold c_bad_text_6
    (try simp only [eq_self, decide_true, decide_false, Bool.not_true, Bool.not_false, true_and, and_true, wp_isi, isK, List.any_cons, List.any_nil, Bool.or_false, Bool.false_or, Bool.or_true, Bool.true_or, setS, retS, exprS, cstE, op1E, op2E, opnE, consA, nilA, valT, andT, orT, notT, iteE, andE, orE, notE, callE, methE, m0, m1, one, skipS, brkS, cntS, raiseS, subS, parS, var0, set0, var1, set1, var2, set2, var3, set3, var4, set4, var5, set5, var6, set6, var7, set7, var8, set8, var9, set9, var10, set10, var11, set11, var12, set12, var13, set13, var14, set14, var15, set15, var16, set16, var17, set17, var18, set18, var19, set19, wp_bnd, wpr, wpe, wp_chk, bndr, bnde, List.append_nil, List.nil_append, List.cons_append, cond_true, cond_false, decide_eq_true_eq, slc_s1, slc_s2, slc_s3, slc_t1, slc_t2, slc_t3, slc_l1, slc_l2, slc_l3, chk_i, sliceE, add_ii, sub_ii, mul_ii, fdiv_ii, mod_ii, pow_ii, eq_ii, ne_ii, lt_ii, le_ii, gt_ii, ge_ii, add_ss, add_tt, mul_si, eq_ss, ne_ss, eq_bb, neg_i, abs_i, int_i, int_b, len_s, len_t, len_k, max_ii, min_ii, tr_b, tr_i, tr_s, tr_n, ie_i, is_i, isnt_i, ie_s, is_s, isnt_s, ie_b, is_b, isnt_b, ie_t, is_t, isnt_t, ie_l, is_l, isnt_l, ie_k, is_k, isnt_k, ie_n, is_n, isnt_n, ie_e, in_ss, nin_ss, sub_si, sub_ti, kst, end_rt, end_nx])
    refine sp_free2 ok2.1 (by rw [sg_len]; omega) (by rw [sg_len]; omega) ⟨by omega, by omega⟩ fun t S3 et _ ok3 => ?_
    have ok3 := ok2.trans ok3
    (try simp only [eq_self, decide_true, decide_false, Bool.not_true, Bool.not_false, true_and, and_true, wp_isi, isK, List.any_cons, List.any_nil, Bool.or_false, Bool.false_or, Bool.or_true, Bool.true_or, setS, retS, exprS, cstE, op1E, op2E, opnE, consA, nilA, valT, andT, orT, notT, iteE, andE, orE, notE, callE, methE, m0, m1, one, skipS, brkS, cntS, raiseS, subS, parS, var0, set0, var1, set1, var2, set2, var3, set3, var4, set4, var5, set5, var6, set6, var7, set7, var8, set8, var9, set9, var10, set10, var11, set11, var12, set12, var13, set13, var14, set14, var15, set15, var16, set16, var17, set17, var18, set18, var19, set19, wp_bnd, wpr, wpe, wp_chk, bndr, bnde, List.append_nil, List.nil_append, List.cons_append, cond_true, cond_false, decide_eq_true_eq, slc_s1, slc_s2, slc_s3, slc_t1, slc_t2, slc_t3, slc_l1, slc_l2, slc_l3, chk_i, sliceE, add_ii, sub_ii, mul_ii, fdiv_ii, mod_ii, pow_ii, eq_ii, ne_ii, lt_ii, le_ii, gt_ii, ge_ii, add_ss, add_tt, mul_si, eq_ss, ne_ss, eq_bb, neg_i, abs_i, int_i, int_b, len_s, len_t, len_k, max_ii, min_ii, tr_b, tr_i, tr_s, tr_n, ie_i, is_i, isnt_i, ie_s, is_s, isnt_s, ie_b, is_b, isnt_b, ie_t, is_t, isnt_t, ie_l, is_l, isnt_l, ie_k, is_k, isnt_k, ie_n, is_n, isnt_n, ie_e, in_ss, nin_ss, sub_si, sub_ti, kst, end_rt, end_nx])
    refine wp_seq ?_
    unfold c_bad_text_7
    (try simp only [eq_self, decide_true, decide_false, Bool.not_true, Bool.not_false, true_and, and_true, wp_isi, isK, List.any_cons, List.any_nil, Bool.or_false, Bool.false_or, Bool.or_true, Bool.true_or, setS, retS, exprS, cstE, op1E, op2E, opnE, consA, nilA, valT, andT, orT, notT, iteE, andE, orE, notE, callE, methE, m0, m1, one, skipS, brkS, cntS, raiseS, subS, parS, var0, set0, var1, set1, var2, set2, var3, set3, var4, set4, var5, set5, var6, set6, var7, set7, var8, set8, var9, set9, var10, set10, var11, set11, var12, set12, var13, set13, var14, set14, var15, set15, var16, set16, var17, set17, var18, set18, var19, set19, wp_bnd, wpr, wpe, wp_chk, bndr, bnde, List.append_nil, List.nil_append, List.cons_append, cond_true, cond_false, decide_eq_true_eq, slc_s1, slc_s2, slc_s3, slc_t1, slc_t2, slc_t3, slc_l1, slc_l2, slc_l3, chk_i, sliceE, add_ii, sub_ii, mul_ii, fdiv_ii, mod_ii, pow_ii, eq_ii, ne_ii, lt_ii, le_ii, gt_ii, ge_ii, add_ss, add_tt, mul_si, eq_ss, ne_ss, eq_bb, neg_i, abs_i, int_i, int_b, len_s, len_t, len_k, max_ii, min_ii, tr_b, tr_i, tr_s, tr_n, ie_i, is_i, isnt_i, ie_s, is_s, isnt_s, ie_b, is_b, isnt_b, ie_t, is_t, isnt_t, ie_l, is_l, isnt_l, ie_k, is_k, isnt_k, ie_n, is_n, isnt_n, ie_e, in_ss, nin_ss, sub_si, sub_ti, kst, end_rt, end_nx])
    refine sp_edge ok3.1 (by omega) fun r S4 ⟨a, er, a0, a1, a2⟩ st ex => ?_
    subst er
    have ok4 := ok3.trans ⟨st, ex⟩
    clear st ex
    (try simp only [eq_self, decide_true, decide_false, Bool.not_true, Bool.not_false, true_and, and_true, wp_isi, isK, List.any_cons, List.any_nil, Bool.or_false, Bool.false_or, Bool.or_true, Bool.true_or, setS, retS, exprS, cstE, op1E, op2E, opnE, consA, nilA, valT, andT, orT, notT, iteE, andE, orE, notE, callE, methE, m0, m1, one, skipS, brkS, cntS, raiseS, subS, parS, var0, set0, var1, set1, var2, set2, var3, set3, var4, set4, var5, set5, var6, set6, var7, set7, var8, set8, var9, set9, var10, set10, var11, set11, var12, set12, var13, set13, var14, set14, var15, set15, var16, set16, var17, set17, var18, set18, var19, set19, wp_bnd, wpr, wpe, wp_chk, bndr, bnde, List.append_nil, List.nil_append, List.cons_append, cond_true, cond_false, decide_eq_true_eq, slc_s1, slc_s2, slc_s3, slc_t1, slc_t2, slc_t3, slc_l1, slc_l2, slc_l3, chk_i, sliceE, add_ii, sub_ii, mul_ii, fdiv_ii, mod_ii, pow_ii, eq_ii, ne_ii, lt_ii, le_ii, gt_ii, ge_ii, add_ss, add_tt, mul_si, eq_ss, ne_ss, eq_bb, neg_i, abs_i, int_i, int_b, len_s, len_t, len_k, max_ii, min_ii, tr_b, tr_i, tr_s, tr_n, ie_i, is_i, isnt_i, ie_s, is_s, isnt_s, ie_b, is_b, isnt_b, ie_t, is_t, isnt_t, ie_l, is_l, isnt_l, ie_k, is_k, isnt_k, ie_n, is_n, isnt_n, ie_e, in_ss, nin_ss, sub_si, sub_ti, kst, end_rt, end_nx])
    refine wp_seq ?_
    unfold c_bad_text_8
    simp only [eq_self, decide_true, decide_false, Bool.not_true, Bool.not_false, true_and, and_true, wp_isi, isK, List.any_cons, List.any_nil, Bool.or_false, Bool.false_or, Bool.or_true, Bool.true_or, setS, retS, exprS, cstE, op1E, op2E, opnE, consA, nilA, valT, andT, orT, notT, iteE, andE, orE, notE, callE, methE, m0, m1, one, skipS, brkS, cntS, raiseS, subS, parS, var0, set0, var1, set1, var2, set2, var3, set3, var4, set4, var5, set5, var6, set6, var7, set7, var8, set8, var9, set9, var10, set10, var11, set11, var12, set12, var13, set13, var14, set14, var15, set15, var16, set16, var17, set17, var18, set18, var19, set19, wp_bnd, wpr, wpe, wp_chk, bndr, bnde, List.append_nil, List.nil_append, List.cons_append, cond_true, cond_false, decide_eq_true_eq, slc_s1, slc_s2, slc_s3, slc_t1, slc_t2, slc_t3, slc_l1, slc_l2, slc_l3, chk_i, sliceE, add_ii, sub_ii, mul_ii, fdiv_ii, mod_ii, pow_ii, eq_ii, ne_ii, lt_ii, le_ii, gt_ii, ge_ii, add_ss, add_tt, mul_si, eq_ss, ne_ss, eq_bb, neg_i, abs_i, int_i, int_b, len_s, len_t, len_k, max_ii, min_ii, tr_b, tr_i, tr_s, tr_n, ie_i, is_i, isnt_i, ie_s, is_s, isnt_s, ie_b, is_b, isnt_b, ie_t, is_t, isnt_t, ie_l, is_l, isnt_l, ie_k, is_k, isnt_k, ie_n, is_n, isnt_n, ie_e, in_ss, nin_ss, sub_si, sub_ti, kst, end_rt, end_nx, wp_newL]
    refine ⟨rfl, by simp [SZ], ?_⟩
    have menu : ∃ bs : List Nat, [D.str [48], D.str [49], D.str [50], D.str [51], D.str [52], D.str [53], D.str [57], D.str [97], D.str [98], D.str [99], D.str [100], D.str [65], D.str [32], D.str [45], D.str [126]] = (bs.map fun c => [c]).map .str ∧ bs.length = 15 := ⟨[48, 49, 50, 51, 52, 53, 57, 97, 98, 99, 100, 65, 32, 45, 126], rfl, rfl⟩
    obtain ⟨bs, eb, nb⟩ := menu
    rw [eb]
    have ok5 := ok4.app (r := [Ob.lst true ((bs.map fun c => [c]).map .str)])
    have b5 : (S4 ++ [Ob.lst true ((bs.map fun c => [c]).map .str)])[S4.length]? = _ := at_new
    have hne := ok4.1.lt
    generalize S4 ++ [Ob.lst true ((bs.map fun c => [c]).map .str)] = S5 at ok5 b5
    refine wp_seq ?_
    unfold c_bad_text_9
    (try simp only [eq_self, decide_true, decide_false, Bool.not_true, Bool.not_false, true_and, and_true, wp_isi, isK, List.any_cons, List.any_nil, Bool.or_false, Bool.false_or, Bool.or_true, Bool.true_or, setS, retS, exprS, cstE, op1E, op2E, opnE, consA, nilA, valT, andT, orT, notT, iteE, andE, orE, notE, callE, methE, m0, m1, one, skipS, brkS, cntS, raiseS, subS, parS, var0, set0, var1, set1, var2, set2, var3, set3, var4, set4, var5, set5, var6, set6, var7, set7, var8, set8, var9, set9, var10, set10, var11, set11, var12, set12, var13, set13, var14, set14, var15, set15, var16, set16, var17, set17, var18, set18, var19, set19, wp_bnd, wpr, wpe, wp_chk, bndr, bnde, List.append_nil, List.nil_append, List.cons_append, cond_true, cond_false, decide_eq_true_eq, slc_s1, slc_s2, slc_s3, slc_t1, slc_t2, slc_t3, slc_l1, slc_l2, slc_l3, chk_i, sliceE, add_ii, sub_ii, mul_ii, fdiv_ii, mod_ii, pow_ii, eq_ii, ne_ii, lt_ii, le_ii, gt_ii, ge_ii, add_ss, add_tt, mul_si, eq_ss, ne_ss, eq_bb, neg_i, abs_i, int_i, int_b, len_s, len_t, len_k, max_ii, min_ii, tr_b, tr_i, tr_s, tr_n, ie_i, is_i, isnt_i, ie_s, is_s, isnt_s, ie_b, is_b, isnt_b, ie_t, is_t, isnt_t, ie_l, is_l, isnt_l, ie_k, is_k, isnt_k, ie_n, is_n, isnt_n, ie_e, in_ss, nin_ss, sub_si, sub_ti, kst, end_rt, end_nx])
    refine wp_seq ?_
    have s10 : Wp (c_bad_text_10 (callF LT (n + 3)) [some (.loc L), some (.str (sg w)), some (.int 0), some (.int (most w : Nat)), some (.int kd), some (.int (1 + v)), some (.str t), some (.int a), some (.loc S4.length), some (.str [45])]) S5 (fun f S6 => Ok L N S S6 ∧ ∃ c, f = .nx [some (.loc L), some (.str (sg w)), some (.int 0), some (.int (most w : Nat)), some (.int kd), some (.int (1 + v)), some (.str t), some (.int a), some (.loc S4.length), some (.str [c])]) E := by
      unfold c_bad_text_10
      refine wp_ite ?_
      (try simp only [eq_self, decide_true, decide_false, Bool.not_true, Bool.not_false, true_and, and_true, wp_isi, isK, List.any_cons, List.any_nil, Bool.or_false, Bool.false_or, Bool.or_true, Bool.true_or, setS, retS, exprS, cstE, op1E, op2E, opnE, consA, nilA, valT, andT, orT, notT, iteE, andE, orE, notE, callE, methE, m0, m1, one, skipS, brkS, cntS, raiseS, subS, parS, var0, set0, var1, set1, var2, set2, var3, set3, var4, set4, var5, set5, var6, set6, var7, set7, var8, set8, var9, set9, var10, set10, var11, set11, var12, set12, var13, set13, var14, set14, var15, set15, var16, set16, var17, set17, var18, set18, var19, set19, wp_bnd, wpr, wpe, wp_chk, bndr, bnde, List.append_nil, List.nil_append, List.cons_append, cond_true, cond_false, decide_eq_true_eq, slc_s1, slc_s2, slc_s3, slc_t1, slc_t2, slc_t3, slc_l1, slc_l2, slc_l3, chk_i, sliceE, add_ii, sub_ii, mul_ii, fdiv_ii, mod_ii, pow_ii, eq_ii, ne_ii, lt_ii, le_ii, gt_ii, ge_ii, add_ss, add_tt, mul_si, eq_ss, ne_ss, eq_bb, neg_i, abs_i, int_i, int_b, len_s, len_t, len_k, max_ii, min_ii, tr_b, tr_i, tr_s, tr_n, ie_i, is_i, isnt_i, ie_s, is_s, isnt_s, ie_b, is_b, isnt_b, ie_t, is_t, isnt_t, ie_l, is_l, isnt_l, ie_k, is_k, isnt_k, ie_n, is_n, isnt_n, ie_e, in_ss, nin_ss, sub_si, sub_ti, kst, end_rt, end_nx])
      refine sp_take ok5.1 (by decide) fun r S6 ⟨u, er, _⟩ st ex => ?_
      subst er
      have ok6 := ok5.trans ⟨st, ex⟩
      have b6 := ex _ _ (by omega) b5
      clear st ex
      (try simp only [eq_self, decide_true, decide_false, Bool.not_true, Bool.not_false, true_and, and_true, wp_isi, isK, List.any_cons, List.any_nil, Bool.or_false, Bool.false_or, Bool.or_true, Bool.true_or, setS, retS, exprS, cstE, op1E, op2E, opnE, consA, nilA, valT, andT, orT, notT, iteE, andE, orE, notE, callE, methE, m0, m1, one, skipS, brkS, cntS, raiseS, subS, parS, var0, set0, var1, set1, var2, set2, var3, set3, var4, set4, var5, set5, var6, set6, var7, set7, var8, set8, var9, set9, var10, set10, var11, set11, var12, set12, var13, set13, var14, set14, var15, set15, var16, set16, var17, set17, var18, set18, var19, set19, wp_bnd, wpr, wpe, wp_chk, bndr, bnde, List.append_nil, List.nil_append, List.cons_append, cond_true, cond_false, decide_eq_true_eq, slc_s1, slc_s2, slc_s3, slc_t1, slc_t2, slc_t3, slc_l1, slc_l2, slc_l3, chk_i, sliceE, add_ii, sub_ii, mul_ii, fdiv_ii, mod_ii, pow_ii, eq_ii, ne_ii, lt_ii, le_ii, gt_ii, ge_ii, add_ss, add_tt, mul_si, eq_ss, ne_ss, eq_bb, neg_i, abs_i, int_i, int_b, len_s, len_t, len_k, max_ii, min_ii, tr_b, tr_i, tr_s, tr_n, ie_i, is_i, isnt_i, ie_s, is_s, isnt_s, ie_b, is_b, isnt_b, ie_t, is_t, isnt_t, ie_l, is_l, isnt_l, ie_k, is_k, isnt_k, ie_n, is_n, isnt_n, ie_e, in_ss, nin_ss, sub_si, sub_ti, kst, end_rt, end_nx])
      refine ⟨fun _ => ?_, fun _ => ?_⟩
      · unfold c_bad_text_11
        simp only [eq_self, decide_true, decide_false, Bool.not_true, Bool.not_false, true_and, and_true, wp_isi, isK, List.any_cons, List.any_nil, Bool.or_false, Bool.false_or, Bool.or_true, Bool.true_or, setS, retS, exprS, cstE, op1E, op2E, opnE, consA, nilA, valT, andT, orT, notT, iteE, andE, orE, notE, callE, methE, m0, m1, one, skipS, brkS, cntS, raiseS, subS, parS, var0, set0, var1, set1, var2, set2, var3, set3, var4, set4, var5, set5, var6, set6, var7, set7, var8, set8, var9, set9, var10, set10, var11, set11, var12, set12, var13, set13, var14, set14, var15, set15, var16, set16, var17, set17, var18, set18, var19, set19, wp_bnd, wpr, wpe, wp_chk, bndr, bnde, List.append_nil, List.nil_append, List.cons_append, cond_true, cond_false, decide_eq_true_eq, slc_s1, slc_s2, slc_s3, slc_t1, slc_t2, slc_t3, slc_l1, slc_l2, slc_l3, chk_i, sliceE, add_ii, sub_ii, mul_ii, fdiv_ii, mod_ii, pow_ii, eq_ii, ne_ii, lt_ii, le_ii, gt_ii, ge_ii, add_ss, add_tt, mul_si, eq_ss, ne_ss, eq_bb, neg_i, abs_i, int_i, int_b, len_s, len_t, len_k, max_ii, min_ii, tr_b, tr_i, tr_s, tr_n, ie_i, is_i, isnt_i, ie_s, is_s, isnt_s, ie_b, is_b, isnt_b, ie_t, is_t, isnt_t, ie_l, is_l, isnt_l, ie_k, is_k, isnt_k, ie_n, is_n, isnt_n, ie_e, in_ss, nin_ss, sub_si, sub_ti, kst, end_rt, end_nx, wp_newL]
        refine ⟨rfl, by simp [SZ], ?_⟩
        have e6 : ([D.str [48], D.str [49], D.str [50], D.str [51], D.str [52], D.str [53]])[(sg w).length]? = some (.str [48 + w]) := by
          rw [sg_len]
          match w, hi with
          | 0, _ => rfl
          | 1, _ => rfl
          | 2, _ => rfl
          | 3, _ => rfl
          | 4, _ => rfl
          | 5, _ => rfl
          | w + 6, h => omega
        rw [wp_subl at_new, wp_atL e6]
        (try simp only [eq_self, decide_true, decide_false, Bool.not_true, Bool.not_false, true_and, and_true, wp_isi, isK, List.any_cons, List.any_nil, Bool.or_false, Bool.false_or, Bool.or_true, Bool.true_or, setS, retS, exprS, cstE, op1E, op2E, opnE, consA, nilA, valT, andT, orT, notT, iteE, andE, orE, notE, callE, methE, m0, m1, one, skipS, brkS, cntS, raiseS, subS, parS, var0, set0, var1, set1, var2, set2, var3, set3, var4, set4, var5, set5, var6, set6, var7, set7, var8, set8, var9, set9, var10, set10, var11, set11, var12, set12, var13, set13, var14, set14, var15, set15, var16, set16, var17, set17, var18, set18, var19, set19, wp_bnd, wpr, wpe, wp_chk, bndr, bnde, List.append_nil, List.nil_append, List.cons_append, cond_true, cond_false, decide_eq_true_eq, slc_s1, slc_s2, slc_s3, slc_t1, slc_t2, slc_t3, slc_l1, slc_l2, slc_l3, chk_i, sliceE, add_ii, sub_ii, mul_ii, fdiv_ii, mod_ii, pow_ii, eq_ii, ne_ii, lt_ii, le_ii, gt_ii, ge_ii, add_ss, add_tt, mul_si, eq_ss, ne_ss, eq_bb, neg_i, abs_i, int_i, int_b, len_s, len_t, len_k, max_ii, min_ii, tr_b, tr_i, tr_s, tr_n, ie_i, is_i, isnt_i, ie_s, is_s, isnt_s, ie_b, is_b, isnt_b, ie_t, is_t, isnt_t, ie_l, is_l, isnt_l, ie_k, is_k, isnt_k, ie_n, is_n, isnt_n, ie_e, in_ss, nin_ss, sub_si, sub_ti, kst, end_rt, end_nx])
        exact ⟨ok6.app, _, rfl⟩
      · unfold c_bad_text_12
        simp only [eq_self, decide_true, decide_false, Bool.not_true, Bool.not_false, true_and, and_true, wp_isi, isK, List.any_cons, List.any_nil, Bool.or_false, Bool.false_or, Bool.or_true, Bool.true_or, setS, retS, exprS, cstE, op1E, op2E, opnE, consA, nilA, valT, andT, orT, notT, iteE, andE, orE, notE, callE, methE, m0, m1, one, skipS, brkS, cntS, raiseS, subS, parS, var0, set0, var1, set1, var2, set2, var3, set3, var4, set4, var5, set5, var6, set6, var7, set7, var8, set8, var9, set9, var10, set10, var11, set11, var12, set12, var13, set13, var14, set14, var15, set15, var16, set16, var17, set17, var18, set18, var19, set19, wp_bnd, wpr, wpe, wp_chk, bndr, bnde, List.append_nil, List.nil_append, List.cons_append, cond_true, cond_false, decide_eq_true_eq, slc_s1, slc_s2, slc_s3, slc_t1, slc_t2, slc_t3, slc_l1, slc_l2, slc_l3, chk_i, sliceE, add_ii, sub_ii, mul_ii, fdiv_ii, mod_ii, pow_ii, eq_ii, ne_ii, lt_ii, le_ii, gt_ii, ge_ii, add_ss, add_tt, mul_si, eq_ss, ne_ss, eq_bb, neg_i, abs_i, int_i, int_b, len_s, len_t, len_k, max_ii, min_ii, tr_b, tr_i, tr_s, tr_n, ie_i, is_i, isnt_i, ie_s, is_s, isnt_s, ie_b, is_b, isnt_b, ie_t, is_t, isnt_t, ie_l, is_l, isnt_l, ie_k, is_k, isnt_k, ie_n, is_n, isnt_n, ie_e, in_ss, nin_ss, sub_si, sub_ti, kst, end_rt, end_nx, wp_lenl b6]
        refine sp_take ok6.1 (by simp [nb]) fun r S7 ⟨u, er, u0, u1, _⟩ st ex => ?_
        subst er
        have u1 := u1 (by simp [nb])
        rw [List.length_map, List.length_map, nb] at u1
        refine wp_1 (ex _ _ (by omega) b6) u0 (by rw [List.length_map, nb]; omega) ?_
        rw [List.getElem_map]
        (try simp only [eq_self, decide_true, decide_false, Bool.not_true, Bool.not_false, true_and, and_true, wp_isi, isK, List.any_cons, List.any_nil, Bool.or_false, Bool.false_or, Bool.or_true, Bool.true_or, setS, retS, exprS, cstE, op1E, op2E, opnE, consA, nilA, valT, andT, orT, notT, iteE, andE, orE, notE, callE, methE, m0, m1, one, skipS, brkS, cntS, raiseS, subS, parS, var0, set0, var1, set1, var2, set2, var3, set3, var4, set4, var5, set5, var6, set6, var7, set7, var8, set8, var9, set9, var10, set10, var11, set11, var12, set12, var13, set13, var14, set14, var15, set15, var16, set16, var17, set17, var18, set18, var19, set19, wp_bnd, wpr, wpe, wp_chk, bndr, bnde, List.append_nil, List.nil_append, List.cons_append, cond_true, cond_false, decide_eq_true_eq, slc_s1, slc_s2, slc_s3, slc_t1, slc_t2, slc_t3, slc_l1, slc_l2, slc_l3, chk_i, sliceE, add_ii, sub_ii, mul_ii, fdiv_ii, mod_ii, pow_ii, eq_ii, ne_ii, lt_ii, le_ii, gt_ii, ge_ii, add_ss, add_tt, mul_si, eq_ss, ne_ss, eq_bb, neg_i, abs_i, int_i, int_b, len_s, len_t, len_k, max_ii, min_ii, tr_b, tr_i, tr_s, tr_n, ie_i, is_i, isnt_i, ie_s, is_s, isnt_s, ie_b, is_b, isnt_b, ie_t, is_t, isnt_t, ie_l, is_l, isnt_l, ie_k, is_k, isnt_k, ie_n, is_n, isnt_n, ie_e, in_ss, nin_ss, sub_si, sub_ti, kst, end_rt, end_nx])
        exact ⟨ok6.trans ⟨st, ex⟩, _, rfl⟩
    refine wp_mono s10 (fun f S6 ⟨ok6, c, ef⟩ => ?_) fun _ _ _ z => z
    subst ef
    refine wp_seq ?_
    have s13 : Wp (c_bad_text_13 (callF LT (n + 3)) [some (.loc L), some (.str (sg w)), some (.int 0), some (.int (most w : Nat)), some (.int kd), some (.int (1 + v)), some (.str t), some (.int a), some (.loc S4.length), some (.str [c])]) S6 (fun f S7 => S7 = S6 ∧ ∃ c, (sg w).contains c = false ∧ f = .nx [some (.loc L), some (.str (sg w)), some (.int 0), some (.int (most w : Nat)), some (.int kd), some (.int (1 + v)), some (.str t), some (.int a), some (.loc S4.length), some (.str [c])]) E := by
      unfold c_bad_text_13
      refine wp_ite ?_
      simp only [eq_self, decide_true, decide_false, Bool.not_true, Bool.not_false, true_and, and_true, wp_isi, isK, List.any_cons, List.any_nil, Bool.or_false, Bool.false_or, Bool.or_true, Bool.true_or, setS, retS, exprS, cstE, op1E, op2E, opnE, consA, nilA, valT, andT, orT, notT, iteE, andE, orE, notE, callE, methE, m0, m1, one, skipS, brkS, cntS, raiseS, subS, parS, var0, set0, var1, set1, var2, set2, var3, set3, var4, set4, var5, set5, var6, set6, var7, set7, var8, set8, var9, set9, var10, set10, var11, set11, var12, set12, var13, set13, var14, set14, var15, set15, var16, set16, var17, set17, var18, set18, var19, set19, wp_bnd, wpr, wpe, wp_chk, bndr, bnde, List.append_nil, List.nil_append, List.cons_append, cond_true, cond_false, decide_eq_true_eq, slc_s1, slc_s2, slc_s3, slc_t1, slc_t2, slc_t3, slc_l1, slc_l2, slc_l3, chk_i, sliceE, add_ii, sub_ii, mul_ii, fdiv_ii, mod_ii, pow_ii, eq_ii, ne_ii, lt_ii, le_ii, gt_ii, ge_ii, add_ss, add_tt, mul_si, eq_ss, ne_ss, eq_bb, neg_i, abs_i, int_i, int_b, len_s, len_t, len_k, max_ii, min_ii, tr_b, tr_i, tr_s, tr_n, ie_i, is_i, isnt_i, ie_s, is_s, isnt_s, ie_b, is_b, isnt_b, ie_t, is_t, isnt_t, ie_l, is_l, isnt_l, ie_k, is_k, isnt_k, ie_n, is_n, isnt_n, ie_e, in_ss, nin_ss, sub_si, sub_ti, kst, end_rt, end_nx, infixB1]
      refine ⟨fun _ => ?_, fun z => ⟨c, z, rfl⟩⟩
      unfold c_bad_text_14
      (try simp only [eq_self, decide_true, decide_false, Bool.not_true, Bool.not_false, true_and, and_true, wp_isi, isK, List.any_cons, List.any_nil, Bool.or_false, Bool.false_or, Bool.or_true, Bool.true_or, setS, retS, exprS, cstE, op1E, op2E, opnE, consA, nilA, valT, andT, orT, notT, iteE, andE, orE, notE, callE, methE, m0, m1, one, skipS, brkS, cntS, raiseS, subS, parS, var0, set0, var1, set1, var2, set2, var3, set3, var4, set4, var5, set5, var6, set6, var7, set7, var8, set8, var9, set9, var10, set10, var11, set11, var12, set12, var13, set13, var14, set14, var15, set15, var16, set16, var17, set17, var18, set18, var19, set19, wp_bnd, wpr, wpe, wp_chk, bndr, bnde, List.append_nil, List.nil_append, List.cons_append, cond_true, cond_false, decide_eq_true_eq, slc_s1, slc_s2, slc_s3, slc_t1, slc_t2, slc_t3, slc_l1, slc_l2, slc_l3, chk_i, sliceE, add_ii, sub_ii, mul_ii, fdiv_ii, mod_ii, pow_ii, eq_ii, ne_ii, lt_ii, le_ii, gt_ii, ge_ii, add_ss, add_tt, mul_si, eq_ss, ne_ss, eq_bb, neg_i, abs_i, int_i, int_b, len_s, len_t, len_k, max_ii, min_ii, tr_b, tr_i, tr_s, tr_n, ie_i, is_i, isnt_i, ie_s, is_s, isnt_s, ie_b, is_b, isnt_b, ie_t, is_t, isnt_t, ie_l, is_l, isnt_l, ie_k, is_k, isnt_k, ie_n, is_n, isnt_n, ie_e, in_ss, nin_ss, sub_si, sub_ti, kst, end_rt, end_nx])
      refine ⟨45, ?_, rfl⟩
      cases q : (sg w).contains 45 with
      | false => rfl
      | true =>
        have := sg_mem.mp (List.contains_iff_mem.mp q)
        omega
    refine wp_mono s13 (fun f S7 ⟨e7, c, hc, ef⟩ => ?_) fun _ _ _ z => z
    subst ef e7
    unfold c_bad_text_15
    (try simp only [eq_self, decide_true, decide_false, Bool.not_true, Bool.not_false, true_and, and_true, wp_isi, isK, List.any_cons, List.any_nil, Bool.or_false, Bool.false_or, Bool.or_true, Bool.true_or, setS, retS, exprS, cstE, op1E, op2E, opnE, consA, nilA, valT, andT, orT, notT, iteE, andE, orE, notE, callE, methE, m0, m1, one, skipS, brkS, cntS, raiseS, subS, parS, var0, set0, var1, set1, var2, set2, var3, set3, var4, set4, var5, set5, var6, set6, var7, set7, var8, set8, var9, set9, var10, set10, var11, set11, var12, set12, var13, set13, var14, set14, var15, set15, var16, set16, var17, set17, var18, set18, var19, set19, wp_bnd, wpr, wpe, wp_chk, bndr, bnde, List.append_nil, List.nil_append, List.cons_append, cond_true, cond_false, decide_eq_true_eq, slc_s1, slc_s2, slc_s3, slc_t1, slc_t2, slc_t3, slc_l1, slc_l2, slc_l3, chk_i, sliceE, add_ii, sub_ii, mul_ii, fdiv_ii, mod_ii, pow_ii, eq_ii, ne_ii, lt_ii, le_ii, gt_ii, ge_ii, add_ss, add_tt, mul_si, eq_ss, ne_ss, eq_bb, neg_i, abs_i, int_i, int_b, len_s, len_t, len_k, max_ii, min_ii, tr_b, tr_i, tr_s, tr_n, ie_i, is_i, isnt_i, ie_s, is_s, isnt_s, ie_b, is_b, isnt_b, ie_t, is_t, isnt_t, ie_l, is_l, isnt_l, ie_k, is_k, isnt_k, ie_n, is_n, isnt_n, ie_e, in_ss, nin_ss, sub_si, sub_ti, kst, end_rt, end_nx])
    have l1 : (cutL t none (some a)).length ≤ t.length := cutL_lt
    have l2 : (cutL t (some (a + 1)) none).length ≤ t.length := cutL_lt
    refine ⟨by simp [SZ]; omega, by simp [SZ]; omega, hq _ _ (okT_no (c := c) (by simp) hc) (by simp; omega) ok6⟩
  by_cases q1 : kd = 1
  · simp only [q1, eq_self, decide_true, decide_false, Bool.not_true, Bool.not_false, true_and, and_true, wp_isi, isK, List.any_cons, List.any_nil, Bool.or_false, Bool.false_or, Bool.or_true, Bool.true_or, setS, retS, exprS, cstE, op1E, op2E, opnE, consA, nilA, valT, andT, orT, notT, iteE, andE, orE, notE, callE, methE, m0, m1, one, skipS, brkS, cntS, raiseS, subS, parS, var0, set0, var1, set1, var2, set2, var3, set3, var4, set4, var5, set5, var6, set6, var7, set7, var8, set8, var9, set9, var10, set10, var11, set11, var12, set12, var13, set13, var14, set14, var15, set15, var16, set16, var17, set17, var18, set18, var19, set19, wp_bnd, wpr, wpe, wp_chk, bndr, bnde, List.append_nil, List.nil_append, List.cons_append, cond_true, cond_false, decide_eq_true_eq, slc_s1, slc_s2, slc_s3, slc_t1, slc_t2, slc_t3, slc_l1, slc_l2, slc_l3, chk_i, sliceE, add_ii, sub_ii, mul_ii, fdiv_ii, mod_ii, pow_ii, eq_ii, ne_ii, lt_ii, le_ii, gt_ii, ge_ii, add_ss, add_tt, mul_si, eq_ss, ne_ss, eq_bb, neg_i, abs_i, int_i, int_b, len_s, len_t, len_k, max_ii, min_ii, tr_b, tr_i, tr_s, tr_n, ie_i, is_i, isnt_i, ie_s, is_s, isnt_s, ie_b, is_b, isnt_b, ie_t, is_t, isnt_t, ie_l, is_l, isnt_l, ie_k, is_k, isnt_k, ie_n, is_n, isnt_n, ie_e, in_ss, nin_ss, sub_si, sub_ti, kst, end_rt, end_nx]
    exact ⟨(fun z => by cases z), fun _ => by rw [← q1]; exact rest⟩
  · simp only [q1, eq_self, decide_true, decide_false, Bool.not_true, Bool.not_false, true_and, and_true, wp_isi, isK, List.any_cons, List.any_nil, Bool.or_false, Bool.false_or, Bool.or_true, Bool.true_or, setS, retS, exprS, cstE, op1E, op2E, opnE, consA, nilA, valT, andT, orT, notT, iteE, andE, orE, notE, callE, methE, m0, m1, one, skipS, brkS, cntS, raiseS, subS, parS, var0, set0, var1, set1, var2, set2, var3, set3, var4, set4, var5, set5, var6, set6, var7, set7, var8, set8, var9, set9, var10, set10, var11, set11, var12, set12, var13, set13, var14, set14, var15, set15, var16, set16, var17, set17, var18, set18, var19, set19, wp_bnd, wpr, wpe, wp_chk, bndr, bnde, List.append_nil, List.nil_append, List.cons_append, cond_true, cond_false, decide_eq_true_eq, slc_s1, slc_s2, slc_s3, slc_t1, slc_t2, slc_t3, slc_l1, slc_l2, slc_l3, chk_i, sliceE, add_ii, sub_ii, mul_ii, fdiv_ii, mod_ii, pow_ii, eq_ii, ne_ii, lt_ii, le_ii, gt_ii, ge_ii, add_ss, add_tt, mul_si, eq_ss, ne_ss, eq_bb, neg_i, abs_i, int_i, int_b, len_s, len_t, len_k, max_ii, min_ii, tr_b, tr_i, tr_s, tr_n, ie_i, is_i, isnt_i, ie_s, is_s, isnt_s, ie_b, is_b, isnt_b, ie_t, is_t, isnt_t, ie_l, is_l, isnt_l, ie_k, is_k, isnt_k, ie_n, is_n, isnt_n, ie_e, in_ss, nin_ss, sub_si, sub_ti, kst, end_rt, end_nx]
    exact ⟨(fun z => by cases z), fun _ => rest⟩
theorem sp_bad_order {n L N : Nat} {S : Store} {Q : D → Store → Prop} {E : Nat → List D → Store → Prop} (h : StO L N S) (hq : ∀ t S', Ok L N S S' → Q (.str t) S') : Wp (callF LT (n + 5) i_bad_order [.loc L]) S Q E := by
  rw [e_bad_order]
  unfold c_bad_order
  refine wp_def (wp_seq ?_)
  unfold c_bad_order_0
  (try simp only [eq_self, decide_true, decide_false, Bool.not_true, Bool.not_false, true_and, and_true, wp_isi, isK, List.any_cons, List.any_nil, Bool.or_false, Bool.false_or, Bool.or_true, Bool.true_or, setS, retS, exprS, cstE, op1E, op2E, opnE, consA, nilA, valT, andT, orT, notT, iteE, andE, orE, notE, callE, methE, m0, m1, one, skipS, brkS, cntS, raiseS, subS, parS, var0, set0, var1, set1, var2, set2, var3, set3, var4, set4, var5, set5, var6, set6, var7, set7, var8, set8, var9, set9, var10, set10, var11, set11, var12, set12, var13, set13, var14, set14, var15, set15, var16, set16, var17, set17, var18, set18, var19, set19, wp_bnd, wpr, wpe, wp_chk, bndr, bnde, List.append_nil, List.nil_append, List.cons_append, cond_true, cond_false, decide_eq_true_eq, slc_s1, slc_s2, slc_s3, slc_t1, slc_t2, slc_t3, slc_l1, slc_l2, slc_l3, chk_i, sliceE, add_ii, sub_ii, mul_ii, fdiv_ii, mod_ii, pow_ii, eq_ii, ne_ii, lt_ii, le_ii, gt_ii, ge_ii, add_ss, add_tt, mul_si, eq_ss, ne_ss, eq_bb, neg_i, abs_i, int_i, int_b, len_s, len_t, len_k, max_ii, min_ii, tr_b, tr_i, tr_s, tr_n, ie_i, is_i, isnt_i, ie_s, is_s, isnt_s, ie_b, is_b, isnt_b, ie_t, is_t, isnt_t, ie_l, is_l, isnt_l, ie_k, is_k, isnt_k, ie_n, is_n, isnt_n, ie_e, in_ss, nin_ss, sub_si, sub_ti, kst, end_rt, end_nx])
  refine sp_take h (by decide) fun r S1 ⟨v, er, v0, v1, _⟩ st ex => ?_
  subst er
  have v1 := v1 (by decide)
  have ok1 : Ok L N S S1 := ⟨st, ex⟩
  clear st ex
  obtain ⟨w, ew, lo, hi⟩ : ∃ w : Nat, 1 + v = (w : Int) ∧ 1 ≤ w ∧ w ≤ 5 := ⟨(1 + v).toNat, by omega, by omega, by omega⟩
  (try simp only [eq_self, decide_true, decide_false, Bool.not_true, Bool.not_false, true_and, and_true, wp_isi, isK, List.any_cons, List.any_nil, Bool.or_false, Bool.false_or, Bool.or_true, Bool.true_or, setS, retS, exprS, cstE, op1E, op2E, opnE, consA, nilA, valT, andT, orT, notT, iteE, andE, orE, notE, callE, methE, m0, m1, one, skipS, brkS, cntS, raiseS, subS, parS, var0, set0, var1, set1, var2, set2, var3, set3, var4, set4, var5, set5, var6, set6, var7, set7, var8, set8, var9, set9, var10, set10, var11, set11, var12, set12, var13, set13, var14, set14, var15, set15, var16, set16, var17, set17, var18, set18, var19, set19, wp_bnd, wpr, wpe, wp_chk, bndr, bnde, List.append_nil, List.nil_append, List.cons_append, cond_true, cond_false, decide_eq_true_eq, slc_s1, slc_s2, slc_s3, slc_t1, slc_t2, slc_t3, slc_l1, slc_l2, slc_l3, chk_i, sliceE, add_ii, sub_ii, mul_ii, fdiv_ii, mod_ii, pow_ii, eq_ii, ne_ii, lt_ii, le_ii, gt_ii, ge_ii, add_ss, add_tt, mul_si, eq_ss, ne_ss, eq_bb, neg_i, abs_i, int_i, int_b, len_s, len_t, len_k, max_ii, min_ii, tr_b, tr_i, tr_s, tr_n, ie_i, is_i, isnt_i, ie_s, is_s, isnt_s, ie_b, is_b, isnt_b, ie_t, is_t, isnt_t, ie_l, is_l, isnt_l, ie_k, is_k, isnt_k, ie_n, is_n, isnt_n, ie_e, in_ss, nin_ss, sub_si, sub_ti, kst, end_rt, end_nx])
  rw [ew]
  refine wp_seq ?_
  unfold c_bad_order_1
  (try simp only [eq_self, decide_true, decide_false, Bool.not_true, Bool.not_false, true_and, and_true, wp_isi, isK, List.any_cons, List.any_nil, Bool.or_false, Bool.false_or, Bool.or_true, Bool.true_or, setS, retS, exprS, cstE, op1E, op2E, opnE, consA, nilA, valT, andT, orT, notT, iteE, andE, orE, notE, callE, methE, m0, m1, one, skipS, brkS, cntS, raiseS, subS, parS, var0, set0, var1, set1, var2, set2, var3, set3, var4, set4, var5, set5, var6, set6, var7, set7, var8, set8, var9, set9, var10, set10, var11, set11, var12, set12, var13, set13, var14, set14, var15, set15, var16, set16, var17, set17, var18, set18, var19, set19, wp_bnd, wpr, wpe, wp_chk, bndr, bnde, List.append_nil, List.nil_append, List.cons_append, cond_true, cond_false, decide_eq_true_eq, slc_s1, slc_s2, slc_s3, slc_t1, slc_t2, slc_t3, slc_l1, slc_l2, slc_l3, chk_i, sliceE, add_ii, sub_ii, mul_ii, fdiv_ii, mod_ii, pow_ii, eq_ii, ne_ii, lt_ii, le_ii, gt_ii, ge_ii, add_ss, add_tt, mul_si, eq_ss, ne_ss, eq_bb, neg_i, abs_i, int_i, int_b, len_s, len_t, len_k, max_ii, min_ii, tr_b, tr_i, tr_s, tr_n, ie_i, is_i, isnt_i, ie_s, is_s, isnt_s, ie_b, is_b, isnt_b, ie_t, is_t, isnt_t, ie_l, is_l, isnt_l, ie_k, is_k, isnt_k, ie_n, is_n, isnt_n, ie_e, in_ss, nin_ss, sub_si, sub_ti, kst, end_rt, end_nx])
  refine sp_order ok1.1 lo hi fun o S2 ho ok2 => ?_
  have ok2 := ok1.trans ok2
  have hl := ho.len
  (try simp only [eq_self, decide_true, decide_false, Bool.not_true, Bool.not_false, true_and, and_true, wp_isi, isK, List.any_cons, List.any_nil, Bool.or_false, Bool.false_or, Bool.or_true, Bool.true_or, setS, retS, exprS, cstE, op1E, op2E, opnE, consA, nilA, valT, andT, orT, notT, iteE, andE, orE, notE, callE, methE, m0, m1, one, skipS, brkS, cntS, raiseS, subS, parS, var0, set0, var1, set1, var2, set2, var3, set3, var4, set4, var5, set5, var6, set6, var7, set7, var8, set8, var9, set9, var10, set10, var11, set11, var12, set12, var13, set13, var14, set14, var15, set15, var16, set16, var17, set17, var18, set18, var19, set19, wp_bnd, wpr, wpe, wp_chk, bndr, bnde, List.append_nil, List.nil_append, List.cons_append, cond_true, cond_false, decide_eq_true_eq, slc_s1, slc_s2, slc_s3, slc_t1, slc_t2, slc_t3, slc_l1, slc_l2, slc_l3, chk_i, sliceE, add_ii, sub_ii, mul_ii, fdiv_ii, mod_ii, pow_ii, eq_ii, ne_ii, lt_ii, le_ii, gt_ii, ge_ii, add_ss, add_tt, mul_si, eq_ss, ne_ss, eq_bb, neg_i, abs_i, int_i, int_b, len_s, len_t, len_k, max_ii, min_ii, tr_b, tr_i, tr_s, tr_n, ie_i, is_i, isnt_i, ie_s, is_s, isnt_s, ie_b, is_b, isnt_b, ie_t, is_t, isnt_t, ie_l, is_l, isnt_l, ie_k, is_k, isnt_k, ie_n, is_n, isnt_n, ie_e, in_ss, nin_ss, sub_si, sub_ti, kst, end_rt, end_nx])
  refine wp_seq ?_
  unfold c_bad_order_2
  (try simp only [eq_self, decide_true, decide_false, Bool.not_true, Bool.not_false, true_and, and_true, wp_isi, isK, List.any_cons, List.any_nil, Bool.or_false, Bool.false_or, Bool.or_true, Bool.true_or, setS, retS, exprS, cstE, op1E, op2E, opnE, consA, nilA, valT, andT, orT, notT, iteE, andE, orE, notE, callE, methE, m0, m1, one, skipS, brkS, cntS, raiseS, subS, parS, var0, set0, var1, set1, var2, set2, var3, set3, var4, set4, var5, set5, var6, set6, var7, set7, var8, set8, var9, set9, var10, set10, var11, set11, var12, set12, var13, set13, var14, set14, var15, set15, var16, set16, var17, set17, var18, set18, var19, set19, wp_bnd, wpr, wpe, wp_chk, bndr, bnde, List.append_nil, List.nil_append, List.cons_append, cond_true, cond_false, decide_eq_true_eq, slc_s1, slc_s2, slc_s3, slc_t1, slc_t2, slc_t3, slc_l1, slc_l2, slc_l3, chk_i, sliceE, add_ii, sub_ii, mul_ii, fdiv_ii, mod_ii, pow_ii, eq_ii, ne_ii, lt_ii, le_ii, gt_ii, ge_ii, add_ss, add_tt, mul_si, eq_ss, ne_ss, eq_bb, neg_i, abs_i, int_i, int_b, len_s, len_t, len_k, max_ii, min_ii, tr_b, tr_i, tr_s, tr_n, ie_i, is_i, isnt_i, ie_s, is_s, isnt_s, ie_b, is_b, isnt_b, ie_t, is_t, isnt_t, ie_l, is_l, isnt_l, ie_k, is_k, isnt_k, ie_n, is_n, isnt_n, ie_e, in_ss, nin_ss, sub_si, sub_ti, kst, end_rt, end_nx])
  refine sp_take ok2.1 (by omega) fun r S3 ⟨a, er, a0, a1, a2⟩ st ex => ?_
  subst er
  have ok3 := ok2.trans ⟨st, ex⟩
  clear st ex
  have ha : a.toNat < o.length := by
    rw [hl]
    by_cases q : 2 ≤ w
    · have := a1 (by omega); omega
    · have := a2 (by omega); omega
  (try simp only [eq_self, decide_true, decide_false, Bool.not_true, Bool.not_false, true_and, and_true, wp_isi, isK, List.any_cons, List.any_nil, Bool.or_false, Bool.false_or, Bool.or_true, Bool.true_or, setS, retS, exprS, cstE, op1E, op2E, opnE, consA, nilA, valT, andT, orT, notT, iteE, andE, orE, notE, callE, methE, m0, m1, one, skipS, brkS, cntS, raiseS, subS, parS, var0, set0, var1, set1, var2, set2, var3, set3, var4, set4, var5, set5, var6, set6, var7, set7, var8, set8, var9, set9, var10, set10, var11, set11, var12, set12, var13, set13, var14, set14, var15, set15, var16, set16, var17, set17, var18, set18, var19, set19, wp_bnd, wpr, wpe, wp_chk, bndr, bnde, List.append_nil, List.nil_append, List.cons_append, cond_true, cond_false, decide_eq_true_eq, slc_s1, slc_s2, slc_s3, slc_t1, slc_t2, slc_t3, slc_l1, slc_l2, slc_l3, chk_i, sliceE, add_ii, sub_ii, mul_ii, fdiv_ii, mod_ii, pow_ii, eq_ii, ne_ii, lt_ii, le_ii, gt_ii, ge_ii, add_ss, add_tt, mul_si, eq_ss, ne_ss, eq_bb, neg_i, abs_i, int_i, int_b, len_s, len_t, len_k, max_ii, min_ii, tr_b, tr_i, tr_s, tr_n, ie_i, is_i, isnt_i, ie_s, is_s, isnt_s, ie_b, is_b, isnt_b, ie_t, is_t, isnt_t, ie_l, is_l, isnt_l, ie_k, is_k, isnt_k, ie_n, is_n, isnt_n, ie_e, in_ss, nin_ss, sub_si, sub_ti, kst, end_rt, end_nx])
  refine wp_seq ?_
  unfold c_bad_order_3
  (try simp only [eq_self, decide_true, decide_false, Bool.not_true, Bool.not_false, true_and, and_true, wp_isi, isK, List.any_cons, List.any_nil, Bool.or_false, Bool.false_or, Bool.or_true, Bool.true_or, setS, retS, exprS, cstE, op1E, op2E, opnE, consA, nilA, valT, andT, orT, notT, iteE, andE, orE, notE, callE, methE, m0, m1, one, skipS, brkS, cntS, raiseS, subS, parS, var0, set0, var1, set1, var2, set2, var3, set3, var4, set4, var5, set5, var6, set6, var7, set7, var8, set8, var9, set9, var10, set10, var11, set11, var12, set12, var13, set13, var14, set14, var15, set15, var16, set16, var17, set17, var18, set18, var19, set19, wp_bnd, wpr, wpe, wp_chk, bndr, bnde, List.append_nil, List.nil_append, List.cons_append, cond_true, cond_false, decide_eq_true_eq, slc_s1, slc_s2, slc_s3, slc_t1, slc_t2, slc_t3, slc_l1, slc_l2, slc_l3, chk_i, sliceE, add_ii, sub_ii, mul_ii, fdiv_ii, mod_ii, pow_ii, eq_ii, ne_ii, lt_ii, le_ii, gt_ii, ge_ii, add_ss, add_tt, mul_si, eq_ss, ne_ss, eq_bb, neg_i, abs_i, int_i, int_b, len_s, len_t, len_k, max_ii, min_ii, tr_b, tr_i, tr_s, tr_n, ie_i, is_i, isnt_i, ie_s, is_s, isnt_s, ie_b, is_b, isnt_b, ie_t, is_t, isnt_t, ie_l, is_l, isnt_l, ie_k, is_k, isnt_k, ie_n, is_n, isnt_n, ie_e, in_ss, nin_ss, sub_si, sub_ti, kst, end_rt, end_nx])
  refine ⟨by omega, ?_⟩
  have b0 : 0 ≤ (a + 1) % (w : Int) := Int.emod_nonneg _ (by omega)
  have b1 : (a + 1) % (w : Int) < w := Int.emod_lt_of_pos _ (by omega)
  rw [wp_atI b0 (by omega)]
  (try simp only [eq_self, decide_true, decide_false, Bool.not_true, Bool.not_false, true_and, and_true, wp_isi, isK, List.any_cons, List.any_nil, Bool.or_false, Bool.false_or, Bool.or_true, Bool.true_or, setS, retS, exprS, cstE, op1E, op2E, opnE, consA, nilA, valT, andT, orT, notT, iteE, andE, orE, notE, callE, methE, m0, m1, one, skipS, brkS, cntS, raiseS, subS, parS, var0, set0, var1, set1, var2, set2, var3, set3, var4, set4, var5, set5, var6, set6, var7, set7, var8, set8, var9, set9, var10, set10, var11, set11, var12, set12, var13, set13, var14, set14, var15, set15, var16, set16, var17, set17, var18, set18, var19, set19, wp_bnd, wpr, wpe, wp_chk, bndr, bnde, List.append_nil, List.nil_append, List.cons_append, cond_true, cond_false, decide_eq_true_eq, slc_s1, slc_s2, slc_s3, slc_t1, slc_t2, slc_t3, slc_l1, slc_l2, slc_l3, chk_i, sliceE, add_ii, sub_ii, mul_ii, fdiv_ii, mod_ii, pow_ii, eq_ii, ne_ii, lt_ii, le_ii, gt_ii, ge_ii, add_ss, add_tt, mul_si, eq_ss, ne_ss, eq_bb, neg_i, abs_i, int_i, int_b, len_s, len_t, len_k, max_ii, min_ii, tr_b, tr_i, tr_s, tr_n, ie_i, is_i, isnt_i, ie_s, is_s, isnt_s, ie_b, is_b, isnt_b, ie_t, is_t, isnt_t, ie_l, is_l, isnt_l, ie_k, is_k, isnt_k, ie_n, is_n, isnt_n, ie_e, in_ss, nin_ss, sub_si, sub_ti, kst, end_rt, end_nx])
  refine wp_seq ?_
  generalize o[((a + 1) % (w : Int)).toNat]'(by omega) = c0
  have s4 : Wp (c_bad_order_4 (callF LT (n + 4)) [some (.loc L), some (.int (w : Int)), some (.str o), some (.int a), some (.str [c0]), none]) S3 (fun f S4 => S4 = S3 ∧ ∃ c, f = .nx [some (.loc L), some (.int (w : Int)), some (.str o), some (.int a), some (.str [c]), none]) E := by
    unfold c_bad_order_4
    refine wp_ite ?_
    (try simp only [eq_self, decide_true, decide_false, Bool.not_true, Bool.not_false, true_and, and_true, wp_isi, isK, List.any_cons, List.any_nil, Bool.or_false, Bool.false_or, Bool.or_true, Bool.true_or, setS, retS, exprS, cstE, op1E, op2E, opnE, consA, nilA, valT, andT, orT, notT, iteE, andE, orE, notE, callE, methE, m0, m1, one, skipS, brkS, cntS, raiseS, subS, parS, var0, set0, var1, set1, var2, set2, var3, set3, var4, set4, var5, set5, var6, set6, var7, set7, var8, set8, var9, set9, var10, set10, var11, set11, var12, set12, var13, set13, var14, set14, var15, set15, var16, set16, var17, set17, var18, set18, var19, set19, wp_bnd, wpr, wpe, wp_chk, bndr, bnde, List.append_nil, List.nil_append, List.cons_append, cond_true, cond_false, decide_eq_true_eq, slc_s1, slc_s2, slc_s3, slc_t1, slc_t2, slc_t3, slc_l1, slc_l2, slc_l3, chk_i, sliceE, add_ii, sub_ii, mul_ii, fdiv_ii, mod_ii, pow_ii, eq_ii, ne_ii, lt_ii, le_ii, gt_ii, ge_ii, add_ss, add_tt, mul_si, eq_ss, ne_ss, eq_bb, neg_i, abs_i, int_i, int_b, len_s, len_t, len_k, max_ii, min_ii, tr_b, tr_i, tr_s, tr_n, ie_i, is_i, isnt_i, ie_s, is_s, isnt_s, ie_b, is_b, isnt_b, ie_t, is_t, isnt_t, ie_l, is_l, isnt_l, ie_k, is_k, isnt_k, ie_n, is_n, isnt_n, ie_e, in_ss, nin_ss, sub_si, sub_ti, kst, end_rt, end_nx])
    refine ⟨fun _ => ?_, fun _ => ⟨_, rfl⟩⟩
    unfold c_bad_order_5
    (try simp only [eq_self, decide_true, decide_false, Bool.not_true, Bool.not_false, true_and, and_true, wp_isi, isK, List.any_cons, List.any_nil, Bool.or_false, Bool.false_or, Bool.or_true, Bool.true_or, setS, retS, exprS, cstE, op1E, op2E, opnE, consA, nilA, valT, andT, orT, notT, iteE, andE, orE, notE, callE, methE, m0, m1, one, skipS, brkS, cntS, raiseS, subS, parS, var0, set0, var1, set1, var2, set2, var3, set3, var4, set4, var5, set5, var6, set6, var7, set7, var8, set8, var9, set9, var10, set10, var11, set11, var12, set12, var13, set13, var14, set14, var15, set15, var16, set16, var17, set17, var18, set18, var19, set19, wp_bnd, wpr, wpe, wp_chk, bndr, bnde, List.append_nil, List.nil_append, List.cons_append, cond_true, cond_false, decide_eq_true_eq, slc_s1, slc_s2, slc_s3, slc_t1, slc_t2, slc_t3, slc_l1, slc_l2, slc_l3, chk_i, sliceE, add_ii, sub_ii, mul_ii, fdiv_ii, mod_ii, pow_ii, eq_ii, ne_ii, lt_ii, le_ii, gt_ii, ge_ii, add_ss, add_tt, mul_si, eq_ss, ne_ss, eq_bb, neg_i, abs_i, int_i, int_b, len_s, len_t, len_k, max_ii, min_ii, tr_b, tr_i, tr_s, tr_n, ie_i, is_i, isnt_i, ie_s, is_s, isnt_s, ie_b, is_b, isnt_b, ie_t, is_t, isnt_t, ie_l, is_l, isnt_l, ie_k, is_k, isnt_k, ie_n, is_n, isnt_n, ie_e, in_ss, nin_ss, sub_si, sub_ti, kst, end_rt, end_nx])
    exact ⟨_, rfl⟩
  refine wp_mono s4 (fun f S4 ⟨e4, c, ef⟩ => ?_) fun _ _ _ z => z
  subst ef e4
  clear s4
  refine wp_seq ?_
  have l1 : (cutL o none (some a)).length ≤ 5 := by have := cutL_lt (s := o) (lo := none) (hi := some a); omega
  have l2 : (cutL o (some (a + 1)) none).length ≤ 5 := by have := cutL_lt (s := o) (lo := some (a + 1)) (hi := none); omega
  unfold c_bad_order_6
  simp only [eq_self, decide_true, decide_false, Bool.not_true, Bool.not_false, true_and, and_true, wp_isi, isK, List.any_cons, List.any_nil, Bool.or_false, Bool.false_or, Bool.or_true, Bool.true_or, setS, retS, exprS, cstE, op1E, op2E, opnE, consA, nilA, valT, andT, orT, notT, iteE, andE, orE, notE, callE, methE, m0, m1, one, skipS, brkS, cntS, raiseS, subS, parS, var0, set0, var1, set1, var2, set2, var3, set3, var4, set4, var5, set5, var6, set6, var7, set7, var8, set8, var9, set9, var10, set10, var11, set11, var12, set12, var13, set13, var14, set14, var15, set15, var16, set16, var17, set17, var18, set18, var19, set19, wp_bnd, wpr, wpe, wp_chk, bndr, bnde, List.append_nil, List.nil_append, List.cons_append, cond_true, cond_false, decide_eq_true_eq, slc_s1, slc_s2, slc_s3, slc_t1, slc_t2, slc_t3, slc_l1, slc_l2, slc_l3, chk_i, sliceE, add_ii, sub_ii, mul_ii, fdiv_ii, mod_ii, pow_ii, eq_ii, ne_ii, lt_ii, le_ii, gt_ii, ge_ii, add_ss, add_tt, mul_si, eq_ss, ne_ss, eq_bb, neg_i, abs_i, int_i, int_b, len_s, len_t, len_k, max_ii, min_ii, tr_b, tr_i, tr_s, tr_n, ie_i, is_i, isnt_i, ie_s, is_s, isnt_s, ie_b, is_b, isnt_b, ie_t, is_t, isnt_t, ie_l, is_l, isnt_l, ie_k, is_k, isnt_k, ie_n, is_n, isnt_n, ie_e, in_ss, nin_ss, sub_si, sub_ti, kst, end_rt, end_nx, wp_atI a0 ha, wp_newL]
  generalize o[a.toNat] = d0
  refine ⟨by simp [SZ]; omega, by simp [SZ]; omega, by simp [SZ]; omega, by simp [SZ]; omega, by simp [SZ]; omega, rfl, by simp [SZ], wp_seq ?_⟩
  have t1 : ∃ bs : List (List Nat), [D.str [], D.str (o ++ [d0]), D.str [48, 49, 50, 51, 52, 53], D.str (cutL o none (some a) ++ [c] ++ cutL o (some (a + 1)) none), D.str (cutL o none (some a) ++ [45] ++ cutL o (some (a + 1)) none)] = bs.map .str ∧ bs.length = 5 := ⟨[_, _, _, _, _], rfl, rfl⟩
  obtain ⟨bs, eb, nb⟩ := t1
  first | rw [eb] | simp only [List.append_assoc] at eb ⊢
  have ok5 := ok3.app (r := [Ob.lst true (bs.map .str)])
  have b5 : (S4 ++ [Ob.lst true (bs.map .str)])[S4.length]? = _ := at_new
  generalize S4 ++ [Ob.lst true (bs.map .str)] = S5 at ok5 b5
  unfold c_bad_order_7
  simp only [eq_self, decide_true, decide_false, Bool.not_true, Bool.not_false, true_and, and_true, wp_isi, isK, List.any_cons, List.any_nil, Bool.or_false, Bool.false_or, Bool.or_true, Bool.true_or, setS, retS, exprS, cstE, op1E, op2E, opnE, consA, nilA, valT, andT, orT, notT, iteE, andE, orE, notE, callE, methE, m0, m1, one, skipS, brkS, cntS, raiseS, subS, parS, var0, set0, var1, set1, var2, set2, var3, set3, var4, set4, var5, set5, var6, set6, var7, set7, var8, set8, var9, set9, var10, set10, var11, set11, var12, set12, var13, set13, var14, set14, var15, set15, var16, set16, var17, set17, var18, set18, var19, set19, wp_bnd, wpr, wpe, wp_chk, bndr, bnde, List.append_nil, List.nil_append, List.cons_append, cond_true, cond_false, decide_eq_true_eq, slc_s1, slc_s2, slc_s3, slc_t1, slc_t2, slc_t3, slc_l1, slc_l2, slc_l3, chk_i, sliceE, add_ii, sub_ii, mul_ii, fdiv_ii, mod_ii, pow_ii, eq_ii, ne_ii, lt_ii, le_ii, gt_ii, ge_ii, add_ss, add_tt, mul_si, eq_ss, ne_ss, eq_bb, neg_i, abs_i, int_i, int_b, len_s, len_t, len_k, max_ii, min_ii, tr_b, tr_i, tr_s, tr_n, ie_i, is_i, isnt_i, ie_s, is_s, isnt_s, ie_b, is_b, isnt_b, ie_t, is_t, isnt_t, ie_l, is_l, isnt_l, ie_k, is_k, isnt_k, ie_n, is_n, isnt_n, ie_e, in_ss, nin_ss, sub_si, sub_ti, kst, end_rt, end_nx, str_1 (show 0 ≤ (w : Int) ∧ (w : Int) < 10 by omega), str_1 (show 0 ≤ (w : Int) + 1 ∧ (w : Int) + 1 < 10 by omega), wp_newL]
  refine ⟨by simp [SZ]; omega, by simp [SZ]; omega, by simp [SZ]; omega, by simp [SZ]; omega, by simp [SZ]; omega, rfl, by simp [SZ], ?_⟩
  have t2 : ∃ cs : List (List Nat), [D.str (cutL o none (some a) ++ [48 + (w : Int).toNat] ++ cutL o (some (a + 1)) none), D.str (o ++ [32]), D.str (48 :: o), D.str (o ++ [48 + ((w : Int) + 1).toNat])] = cs.map .str ∧ cs.length = 4 := ⟨[_, _, _, _], rfl, rfl⟩
  obtain ⟨cs, ec, nc⟩ := t2
  first | rw [ec] | skip
  have b6 : (S5 ++ [Ob.lst true (cs.map .str)])[S5.length]? = _ := at_new
  have b5 := Pre.app (r := [Ob.lst true (cs.map .str)]) _ _ b5
  have ok6 := ok5.app (r := [Ob.lst true (cs.map .str)])
  generalize S5 ++ [Ob.lst true (cs.map .str)] = S6 at ok6 b5 b6
  rw [wp_addll b5 b6, ← List.map_append]
  refine ⟨noExc_strs _, by rw [List.length_map, List.length_append, nb, nc]; decide, ?_⟩
  have b7 : (S6 ++ [Ob.lst true ((bs ++ cs).map .str)])[S6.length]? = _ := at_new
  have ok7 := ok6.app (r := [Ob.lst true ((bs ++ cs).map .str)])
  have hne := ok6.1.lt
  generalize S6 ++ [Ob.lst true ((bs ++ cs).map .str)] = S7 at ok7 b7
  (try simp only [eq_self, decide_true, decide_false, Bool.not_true, Bool.not_false, true_and, and_true, wp_isi, isK, List.any_cons, List.any_nil, Bool.or_false, Bool.false_or, Bool.or_true, Bool.true_or, setS, retS, exprS, cstE, op1E, op2E, opnE, consA, nilA, valT, andT, orT, notT, iteE, andE, orE, notE, callE, methE, m0, m1, one, skipS, brkS, cntS, raiseS, subS, parS, var0, set0, var1, set1, var2, set2, var3, set3, var4, set4, var5, set5, var6, set6, var7, set7, var8, set8, var9, set9, var10, set10, var11, set11, var12, set12, var13, set13, var14, set14, var15, set15, var16, set16, var17, set17, var18, set18, var19, set19, wp_bnd, wpr, wpe, wp_chk, bndr, bnde, List.append_nil, List.nil_append, List.cons_append, cond_true, cond_false, decide_eq_true_eq, slc_s1, slc_s2, slc_s3, slc_t1, slc_t2, slc_t3, slc_l1, slc_l2, slc_l3, chk_i, sliceE, add_ii, sub_ii, mul_ii, fdiv_ii, mod_ii, pow_ii, eq_ii, ne_ii, lt_ii, le_ii, gt_ii, ge_ii, add_ss, add_tt, mul_si, eq_ss, ne_ss, eq_bb, neg_i, abs_i, int_i, int_b, len_s, len_t, len_k, max_ii, min_ii, tr_b, tr_i, tr_s, tr_n, ie_i, is_i, isnt_i, ie_s, is_s, isnt_s, ie_b, is_b, isnt_b, ie_t, is_t, isnt_t, ie_l, is_l, isnt_l, ie_k, is_k, isnt_k, ie_n, is_n, isnt_n, ie_e, in_ss, nin_ss, sub_si, sub_ti, kst, end_rt, end_nx])
  unfold c_bad_order_8
  simp only [eq_self, decide_true, decide_false, Bool.not_true, Bool.not_false, true_and, and_true, wp_isi, isK, List.any_cons, List.any_nil, Bool.or_false, Bool.false_or, Bool.or_true, Bool.true_or, setS, retS, exprS, cstE, op1E, op2E, opnE, consA, nilA, valT, andT, orT, notT, iteE, andE, orE, notE, callE, methE, m0, m1, one, skipS, brkS, cntS, raiseS, subS, parS, var0, set0, var1, set1, var2, set2, var3, set3, var4, set4, var5, set5, var6, set6, var7, set7, var8, set8, var9, set9, var10, set10, var11, set11, var12, set12, var13, set13, var14, set14, var15, set15, var16, set16, var17, set17, var18, set18, var19, set19, wp_bnd, wpr, wpe, wp_chk, bndr, bnde, List.append_nil, List.nil_append, List.cons_append, cond_true, cond_false, decide_eq_true_eq, slc_s1, slc_s2, slc_s3, slc_t1, slc_t2, slc_t3, slc_l1, slc_l2, slc_l3, chk_i, sliceE, add_ii, sub_ii, mul_ii, fdiv_ii, mod_ii, pow_ii, eq_ii, ne_ii, lt_ii, le_ii, gt_ii, ge_ii, add_ss, add_tt, mul_si, eq_ss, ne_ss, eq_bb, neg_i, abs_i, int_i, int_b, len_s, len_t, len_k, max_ii, min_ii, tr_b, tr_i, tr_s, tr_n, ie_i, is_i, isnt_i, ie_s, is_s, isnt_s, ie_b, is_b, isnt_b, ie_t, is_t, isnt_t, ie_l, is_l, isnt_l, ie_k, is_k, isnt_k, ie_n, is_n, isnt_n, ie_e, in_ss, nin_ss, sub_si, sub_ti, kst, end_rt, end_nx, wp_lenl b7]
  have n9 : ((bs ++ cs).map D.str).length = 9 := by rw [List.length_map, List.length_append, nb, nc]
  rw [n9]
  refine sp_take ok7.1 (by decide) fun r S8 ⟨u, er, u0, u1, _⟩ st ex => ?_
  subst er
  have u1 := u1 (by decide)
  refine wp_1 (ex _ _ (by omega) b7) u0 (by rw [List.length_append, nb, nc]; omega) ?_
  (try simp only [eq_self, decide_true, decide_false, Bool.not_true, Bool.not_false, true_and, and_true, wp_isi, isK, List.any_cons, List.any_nil, Bool.or_false, Bool.false_or, Bool.or_true, Bool.true_or, setS, retS, exprS, cstE, op1E, op2E, opnE, consA, nilA, valT, andT, orT, notT, iteE, andE, orE, notE, callE, methE, m0, m1, one, skipS, brkS, cntS, raiseS, subS, parS, var0, set0, var1, set1, var2, set2, var3, set3, var4, set4, var5, set5, var6, set6, var7, set7, var8, set8, var9, set9, var10, set10, var11, set11, var12, set12, var13, set13, var14, set14, var15, set15, var16, set16, var17, set17, var18, set18, var19, set19, wp_bnd, wpr, wpe, wp_chk, bndr, bnde, List.append_nil, List.nil_append, List.cons_append, cond_true, cond_false, decide_eq_true_eq, slc_s1, slc_s2, slc_s3, slc_t1, slc_t2, slc_t3, slc_l1, slc_l2, slc_l3, chk_i, sliceE, add_ii, sub_ii, mul_ii, fdiv_ii, mod_ii, pow_ii, eq_ii, ne_ii, lt_ii, le_ii, gt_ii, ge_ii, add_ss, add_tt, mul_si, eq_ss, ne_ss, eq_bb, neg_i, abs_i, int_i, int_b, len_s, len_t, len_k, max_ii, min_ii, tr_b, tr_i, tr_s, tr_n, ie_i, is_i, isnt_i, ie_s, is_s, isnt_s, ie_b, is_b, isnt_b, ie_t, is_t, isnt_t, ie_l, is_l, isnt_l, ie_k, is_k, isnt_k, ie_n, is_n, isnt_n, ie_e, in_ss, nin_ss, sub_si, sub_ti, kst, end_rt, end_nx])
  exact hq _ _ (ok7.trans ⟨st, ex⟩)

/-! ### the law's own store, spoiling -/
theorem sp_store {n : Nat} {ns : List Int} {S : Store} {Q : D → Store → Prop} {E : Nat → List D → Store → Prop} (hn : ns.length ≤ 63) (hq : ∀ L N S', StO L N S' → Q (.loc L) S') : Wp (callF LT (n + 1) i_store [.kl (ns.map .int)]) S Q E := by
  rw [e_store]
  unfold c_store c_store_0
  refine wp_def ?_
  simp only [eq_self, decide_true, decide_false, Bool.not_true, Bool.not_false, true_and, and_true, wp_isi, isK, List.any_cons, List.any_nil, Bool.or_false, Bool.false_or, Bool.or_true, Bool.true_or, setS, retS, exprS, cstE, op1E, op2E, opnE, consA, nilA, valT, andT, orT, notT, iteE, andE, orE, notE, callE, methE, m0, m1, one, skipS, brkS, cntS, raiseS, subS, parS, var0, set0, var1, set1, var2, set2, var3, set3, var4, set4, var5, set5, var6, set6, var7, set7, var8, set8, var9, set9, var10, set10, var11, set11, var12, set12, var13, set13, var14, set14, var15, set15, var16, set16, var17, set17, var18, set18, var19, set19, wp_bnd, wpr, wpe, wp_chk, bndr, bnde, List.append_nil, List.nil_append, List.cons_append, cond_true, cond_false, decide_eq_true_eq, slc_s1, slc_s2, slc_s3, slc_t1, slc_t2, slc_t3, slc_l1, slc_l2, slc_l3, chk_i, sliceE, add_ii, sub_ii, mul_ii, fdiv_ii, mod_ii, pow_ii, eq_ii, ne_ii, lt_ii, le_ii, gt_ii, ge_ii, add_ss, add_tt, mul_si, eq_ss, ne_ss, eq_bb, neg_i, abs_i, int_i, int_b, len_s, len_t, len_k, max_ii, min_ii, tr_b, tr_i, tr_s, tr_n, ie_i, is_i, isnt_i, ie_s, is_s, isnt_s, ie_b, is_b, isnt_b, ie_t, is_t, isnt_t, ie_l, is_l, isnt_l, ie_k, is_k, isnt_k, ie_n, is_n, isnt_n, ie_e, in_ss, nin_ss, sub_si, sub_ti, kst, end_rt, end_nx, wp_newL]
  refine ⟨rfl, by simp [SZ], ?_⟩
  have h1 : (S ++ [Ob.lst true [.int 5, .int 0, .int (1 + ↑(List.map D.int ns).length), .int 0, .int 0]])[S.length]? = _ := at_new
  generalize S ++ [Ob.lst true [.int 5, .int 0, .int (1 + ↑(List.map D.int ns).length), .int 0, .int 0]] = S1 at h1
  refine wp_comp ?_
  simp only [eq_self, decide_true, decide_false, Bool.not_true, Bool.not_false, true_and, and_true, wp_isi, isK, List.any_cons, List.any_nil, Bool.or_false, Bool.false_or, Bool.or_true, Bool.true_or, setS, retS, exprS, cstE, op1E, op2E, opnE, consA, nilA, valT, andT, orT, notT, iteE, andE, orE, notE, callE, methE, m0, m1, one, skipS, brkS, cntS, raiseS, subS, parS, var0, set0, var1, set1, var2, set2, var3, set3, var4, set4, var5, set5, var6, set6, var7, set7, var8, set8, var9, set9, var10, set10, var11, set11, var12, set12, var13, set13, var14, set14, var15, set15, var16, set16, var17, set17, var18, set18, var19, set19, wp_bnd, wpr, wpe, wp_chk, bndr, bnde, List.append_nil, List.nil_append, List.cons_append, cond_true, cond_false, decide_eq_true_eq, slc_s1, slc_s2, slc_s3, slc_t1, slc_t2, slc_t3, slc_l1, slc_l2, slc_l3, chk_i, sliceE, add_ii, sub_ii, mul_ii, fdiv_ii, mod_ii, pow_ii, eq_ii, ne_ii, lt_ii, le_ii, gt_ii, ge_ii, add_ss, add_tt, mul_si, eq_ss, ne_ss, eq_bb, neg_i, abs_i, int_i, int_b, len_s, len_t, len_k, max_ii, min_ii, tr_b, tr_i, tr_s, tr_n, ie_i, is_i, isnt_i, ie_s, is_s, isnt_s, ie_b, is_b, isnt_b, ie_t, is_t, isnt_t, ie_l, is_l, isnt_l, ie_k, is_k, isnt_k, ie_n, is_n, isnt_n, ie_e, in_ss, nin_ss, sub_si, sub_ti, kst, end_rt, end_nx, seqI, itOf, forget, List.set]
  have hl : (ns.map D.int).length ≤ 63 := by rw [List.length_map]; exact hn
  refine wp_tupCol (P := fun xs S' => (∃ r : List Int, xs = r.map .int) ∧ S'[S.length]? = some (.lst true [.int 5, .int 0, .int (1 + ↑(List.map D.int ns).length), .int 0, .int 0])) (by omega) at_new ⟨⟨[], rfl⟩, Pre.app _ _ h1⟩ (fun i xs S' d hi hx ha ⟨⟨r, er⟩, hp⟩ => ?_) (fun xs S' hx ha ⟨⟨r, er⟩, hp⟩ => ?_)
  · rw [List.getElem?_map] at hi
    cases q : ns[i]? with
    | none => rw [q] at hi; cases hi
    | some v =>
      rw [q] at hi
      cases hi
      refine ⟨rfl, ?_⟩
      simp only [eq_self, decide_true, decide_false, Bool.not_true, Bool.not_false, true_and, and_true, wp_isi, isK, List.any_cons, List.any_nil, Bool.or_false, Bool.false_or, Bool.or_true, Bool.true_or, setS, retS, exprS, cstE, op1E, op2E, opnE, consA, nilA, valT, andT, orT, notT, iteE, andE, orE, notE, callE, methE, m0, m1, one, skipS, brkS, cntS, raiseS, subS, parS, var0, set0, var1, set1, var2, set2, var3, set3, var4, set4, var5, set5, var6, set6, var7, set7, var8, set8, var9, set9, var10, set10, var11, set11, var12, set12, var13, set13, var14, set14, var15, set15, var16, set16, var17, set17, var18, set18, var19, set19, wp_bnd, wpr, wpe, wp_chk, bndr, bnde, List.append_nil, List.nil_append, List.cons_append, cond_true, cond_false, decide_eq_true_eq, slc_s1, slc_s2, slc_s3, slc_t1, slc_t2, slc_t3, slc_l1, slc_l2, slc_l3, chk_i, sliceE, add_ii, sub_ii, mul_ii, fdiv_ii, mod_ii, pow_ii, eq_ii, ne_ii, lt_ii, le_ii, gt_ii, ge_ii, add_ss, add_tt, mul_si, eq_ss, ne_ss, eq_bb, neg_i, abs_i, int_i, int_b, len_s, len_t, len_k, max_ii, min_ii, tr_b, tr_i, tr_s, tr_n, ie_i, is_i, isnt_i, ie_s, is_s, isnt_s, ie_b, is_b, isnt_b, ie_t, is_t, isnt_t, ie_l, is_l, isnt_l, ie_k, is_k, isnt_k, ie_n, is_n, isnt_n, ie_e, in_ss, nin_ss, sub_si, sub_ti, kst, end_rt, end_nx, List.set, one]
      refine ⟨ha, fun S2 e2 => ⟨⟨r ++ [v], by rw [er]; simp⟩, ?_⟩⟩
      subst e2
      have := lt_at h1
      exact at_ne hp (by omega)
  · rw [wp_addll hp ha]
    refine ⟨?_, ?_, ?_⟩
    · rw [noExc_app, er, noExc_ints]; rfl
    · rw [List.length_append, hx]; show 5 + _ ≤ 16777216; omega
    simp only [eq_self, decide_true, decide_false, Bool.not_true, Bool.not_false, true_and, and_true, wp_isi, isK, List.any_cons, List.any_nil, Bool.or_false, Bool.false_or, Bool.or_true, Bool.true_or, setS, retS, exprS, cstE, op1E, op2E, opnE, consA, nilA, valT, andT, orT, notT, iteE, andE, orE, notE, callE, methE, m0, m1, one, skipS, brkS, cntS, raiseS, subS, parS, var0, set0, var1, set1, var2, set2, var3, set3, var4, set4, var5, set5, var6, set6, var7, set7, var8, set8, var9, set9, var10, set10, var11, set11, var12, set12, var13, set13, var14, set14, var15, set15, var16, set16, var17, set17, var18, set18, var19, set19, wp_bnd, wpr, wpe, wp_chk, bndr, bnde, List.append_nil, List.nil_append, List.cons_append, cond_true, cond_false, decide_eq_true_eq, slc_s1, slc_s2, slc_s3, slc_t1, slc_t2, slc_t3, slc_l1, slc_l2, slc_l3, chk_i, sliceE, add_ii, sub_ii, mul_ii, fdiv_ii, mod_ii, pow_ii, eq_ii, ne_ii, lt_ii, le_ii, gt_ii, ge_ii, add_ss, add_tt, mul_si, eq_ss, ne_ss, eq_bb, neg_i, abs_i, int_i, int_b, len_s, len_t, len_k, max_ii, min_ii, tr_b, tr_i, tr_s, tr_n, ie_i, is_i, isnt_i, ie_s, is_s, isnt_s, ie_b, is_b, isnt_b, ie_t, is_t, isnt_t, ie_l, is_l, isnt_l, ie_k, is_k, isnt_k, ie_n, is_n, isnt_n, ie_e, in_ss, nin_ss, sub_si, sub_ti, kst, end_rt, end_nx]
    refine hq _ (5 + ns.length) _ ⟨5 :: 0 :: (1 + ↑(List.map D.int ns).length) :: 0 :: 0 :: r, ⟨?_, ?_, by omega⟩, by omega, by show (0 : Int) ≤ 5; decide⟩
    · rw [at_new, er]; rfl
    · rw [er] at hx
      simp at hx
      simp [hx]
      omega

theorem law_turn {n L N : Nat} {ns : D} {i : Nat} {x3 x4 x5 x6 x7 x8 x9 x10 x11 x12 : Option D} {S : Store} {Q' : Fl → Store → Prop} (h : StO L N S)
    (hq : ∀ x3 x4 x5 x6 x7 x8 x9 x10 x11 x12 S', Ok L N S S' → Q' (.nx [some ns, some (.loc L), some (.int i), x3, x4, x5, x6, x7, x8, x9, x10, x11, x12]) S') :
    Wp ((seqS (c_law_2 (callF LT (n + 7))) (seqS (c_law_3 (callF LT (n + 7))) (seqS (c_law_4 (callF LT (n + 7))) (seqS (c_law_5 (callF LT (n + 7))) (seqS (c_law_6 (callF LT (n + 7))) (seqS (c_law_7 (callF LT (n + 7))) (seqS (c_law_8 (callF LT (n + 7))) (seqS (c_law_10 (callF LT (n + 7))) (seqS (c_law_11 (callF LT (n + 7))) (seqS (c_law_13 (callF LT (n + 7))) (seqS (c_law_15 (callF LT (n + 7))) (seqS (c_law_19 (callF LT (n + 7))) (seqS (c_law_20 (callF LT (n + 7))) (c_law_22 (callF LT (n + 7)))))))))))))))) [some ns, some (.loc L), some (.int i), x3, x4, x5, x6, x7, x8, x9, x10, x11, x12]) S Q' fun _ _ _ => False := by
  refine wp_seq ?_
  unfold c_law_2
  (try simp only [eq_self, decide_true, decide_false, Bool.not_true, Bool.not_false, true_and, and_true, wp_isi, isK, List.any_cons, List.any_nil, Bool.or_false, Bool.false_or, Bool.or_true, Bool.true_or, setS, retS, exprS, cstE, op1E, op2E, opnE, consA, nilA, valT, andT, orT, notT, iteE, andE, orE, notE, callE, methE, m0, m1, one, skipS, brkS, cntS, raiseS, subS, parS, var0, set0, var1, set1, var2, set2, var3, set3, var4, set4, var5, set5, var6, set6, var7, set7, var8, set8, var9, set9, var10, set10, var11, set11, var12, set12, var13, set13, var14, set14, var15, set15, var16, set16, var17, set17, var18, set18, var19, set19, wp_bnd, wpr, wpe, wp_chk, bndr, bnde, List.append_nil, List.nil_append, List.cons_append, cond_true, cond_false, decide_eq_true_eq, slc_s1, slc_s2, slc_s3, slc_t1, slc_t2, slc_t3, slc_l1, slc_l2, slc_l3, chk_i, sliceE, add_ii, sub_ii, mul_ii, fdiv_ii, mod_ii, pow_ii, eq_ii, ne_ii, lt_ii, le_ii, gt_ii, ge_ii, add_ss, add_tt, mul_si, eq_ss, ne_ss, eq_bb, neg_i, abs_i, int_i, int_b, len_s, len_t, len_k, max_ii, min_ii, tr_b, tr_i, tr_s, tr_n, ie_i, is_i, isnt_i, ie_s, is_s, isnt_s, ie_b, is_b, isnt_b, ie_t, is_t, isnt_t, ie_l, is_l, isnt_l, ie_k, is_k, isnt_k, ie_n, is_n, isnt_n, ie_e, in_ss, nin_ss, sub_si, sub_ti, kst, end_rt, end_nx])
  refine sp_take h (by decide) fun r S1 ⟨v, er, v0, v1, _⟩ st ex => ?_
  subst er
  have v1 := v1 (by decide)
  have ok1 : Ok L N S S1 := ⟨st, ex⟩
  clear st ex
  obtain ⟨w, ew, lo, hi⟩ : ∃ w : Nat, 1 + v = (w : Int) ∧ 1 ≤ w ∧ w ≤ 5 := ⟨(1 + v).toNat, by omega, by omega, by omega⟩
  (try simp only [eq_self, decide_true, decide_false, Bool.not_true, Bool.not_false, true_and, and_true, wp_isi, isK, List.any_cons, List.any_nil, Bool.or_false, Bool.false_or, Bool.or_true, Bool.true_or, setS, retS, exprS, cstE, op1E, op2E, opnE, consA, nilA, valT, andT, orT, notT, iteE, andE, orE, notE, callE, methE, m0, m1, one, skipS, brkS, cntS, raiseS, subS, parS, var0, set0, var1, set1, var2, set2, var3, set3, var4, set4, var5, set5, var6, set6, var7, set7, var8, set8, var9, set9, var10, set10, var11, set11, var12, set12, var13, set13, var14, set14, var15, set15, var16, set16, var17, set17, var18, set18, var19, set19, wp_bnd, wpr, wpe, wp_chk, bndr, bnde, List.append_nil, List.nil_append, List.cons_append, cond_true, cond_false, decide_eq_true_eq, slc_s1, slc_s2, slc_s3, slc_t1, slc_t2, slc_t3, slc_l1, slc_l2, slc_l3, chk_i, sliceE, add_ii, sub_ii, mul_ii, fdiv_ii, mod_ii, pow_ii, eq_ii, ne_ii, lt_ii, le_ii, gt_ii, ge_ii, add_ss, add_tt, mul_si, eq_ss, ne_ss, eq_bb, neg_i, abs_i, int_i, int_b, len_s, len_t, len_k, max_ii, min_ii, tr_b, tr_i, tr_s, tr_n, ie_i, is_i, isnt_i, ie_s, is_s, isnt_s, ie_b, is_b, isnt_b, ie_t, is_t, isnt_t, ie_l, is_l, isnt_l, ie_k, is_k, isnt_k, ie_n, is_n, isnt_n, ie_e, in_ss, nin_ss, sub_si, sub_ti, kst, end_rt, end_nx])
  rw [ew]
  have hm := most_lt lo hi
  refine wp_seq ?_
  unfold c_law_3
  (try simp only [eq_self, decide_true, decide_false, Bool.not_true, Bool.not_false, true_and, and_true, wp_isi, isK, List.any_cons, List.any_nil, Bool.or_false, Bool.false_or, Bool.or_true, Bool.true_or, setS, retS, exprS, cstE, op1E, op2E, opnE, consA, nilA, valT, andT, orT, notT, iteE, andE, orE, notE, callE, methE, m0, m1, one, skipS, brkS, cntS, raiseS, subS, parS, var0, set0, var1, set1, var2, set2, var3, set3, var4, set4, var5, set5, var6, set6, var7, set7, var8, set8, var9, set9, var10, set10, var11, set11, var12, set12, var13, set13, var14, set14, var15, set15, var16, set16, var17, set17, var18, set18, var19, set19, wp_bnd, wpr, wpe, wp_chk, bndr, bnde, List.append_nil, List.nil_append, List.cons_append, cond_true, cond_false, decide_eq_true_eq, slc_s1, slc_s2, slc_s3, slc_t1, slc_t2, slc_t3, slc_l1, slc_l2, slc_l3, chk_i, sliceE, add_ii, sub_ii, mul_ii, fdiv_ii, mod_ii, pow_ii, eq_ii, ne_ii, lt_ii, le_ii, gt_ii, ge_ii, add_ss, add_tt, mul_si, eq_ss, ne_ss, eq_bb, neg_i, abs_i, int_i, int_b, len_s, len_t, len_k, max_ii, min_ii, tr_b, tr_i, tr_s, tr_n, ie_i, is_i, isnt_i, ie_s, is_s, isnt_s, ie_b, is_b, isnt_b, ie_t, is_t, isnt_t, ie_l, is_l, isnt_l, ie_k, is_k, isnt_k, ie_n, is_n, isnt_n, ie_e, in_ss, nin_ss, sub_si, sub_ti, kst, end_rt, end_nx])
  refine sp_order ok1.1 lo hi fun o S2 ho ok2 => ?_
  have ok2 := ok1.trans ok2
  (try simp only [eq_self, decide_true, decide_false, Bool.not_true, Bool.not_false, true_and, and_true, wp_isi, isK, List.any_cons, List.any_nil, Bool.or_false, Bool.false_or, Bool.or_true, Bool.true_or, setS, retS, exprS, cstE, op1E, op2E, opnE, consA, nilA, valT, andT, orT, notT, iteE, andE, orE, notE, callE, methE, m0, m1, one, skipS, brkS, cntS, raiseS, subS, parS, var0, set0, var1, set1, var2, set2, var3, set3, var4, set4, var5, set5, var6, set6, var7, set7, var8, set8, var9, set9, var10, set10, var11, set11, var12, set12, var13, set13, var14, set14, var15, set15, var16, set16, var17, set17, var18, set18, var19, set19, wp_bnd, wpr, wpe, wp_chk, bndr, bnde, List.append_nil, List.nil_append, List.cons_append, cond_true, cond_false, decide_eq_true_eq, slc_s1, slc_s2, slc_s3, slc_t1, slc_t2, slc_t3, slc_l1, slc_l2, slc_l3, chk_i, sliceE, add_ii, sub_ii, mul_ii, fdiv_ii, mod_ii, pow_ii, eq_ii, ne_ii, lt_ii, le_ii, gt_ii, ge_ii, add_ss, add_tt, mul_si, eq_ss, ne_ss, eq_bb, neg_i, abs_i, int_i, int_b, len_s, len_t, len_k, max_ii, min_ii, tr_b, tr_i, tr_s, tr_n, ie_i, is_i, isnt_i, ie_s, is_s, isnt_s, ie_b, is_b, isnt_b, ie_t, is_t, isnt_t, ie_l, is_l, isnt_l, ie_k, is_k, isnt_k, ie_n, is_n, isnt_n, ie_e, in_ss, nin_ss, sub_si, sub_ti, kst, end_rt, end_nx])
  refine wp_seq ?_
  unfold c_law_4
  (try simp only [eq_self, decide_true, decide_false, Bool.not_true, Bool.not_false, true_and, and_true, wp_isi, isK, List.any_cons, List.any_nil, Bool.or_false, Bool.false_or, Bool.or_true, Bool.true_or, setS, retS, exprS, cstE, op1E, op2E, opnE, consA, nilA, valT, andT, orT, notT, iteE, andE, orE, notE, callE, methE, m0, m1, one, skipS, brkS, cntS, raiseS, subS, parS, var0, set0, var1, set1, var2, set2, var3, set3, var4, set4, var5, set5, var6, set6, var7, set7, var8, set8, var9, set9, var10, set10, var11, set11, var12, set12, var13, set13, var14, set14, var15, set15, var16, set16, var17, set17, var18, set18, var19, set19, wp_bnd, wpr, wpe, wp_chk, bndr, bnde, List.append_nil, List.nil_append, List.cons_append, cond_true, cond_false, decide_eq_true_eq, slc_s1, slc_s2, slc_s3, slc_t1, slc_t2, slc_t3, slc_l1, slc_l2, slc_l3, chk_i, sliceE, add_ii, sub_ii, mul_ii, fdiv_ii, mod_ii, pow_ii, eq_ii, ne_ii, lt_ii, le_ii, gt_ii, ge_ii, add_ss, add_tt, mul_si, eq_ss, ne_ss, eq_bb, neg_i, abs_i, int_i, int_b, len_s, len_t, len_k, max_ii, min_ii, tr_b, tr_i, tr_s, tr_n, ie_i, is_i, isnt_i, ie_s, is_s, isnt_s, ie_b, is_b, isnt_b, ie_t, is_t, isnt_t, ie_l, is_l, isnt_l, ie_k, is_k, isnt_k, ie_n, is_n, isnt_n, ie_e, in_ss, nin_ss, sub_si, sub_ti, kst, end_rt, end_nx])
  refine sp_order ok2.1 lo hi fun p S3 hp ok3 => ?_
  have ok3 := ok2.trans ok3
  (try simp only [eq_self, decide_true, decide_false, Bool.not_true, Bool.not_false, true_and, and_true, wp_isi, isK, List.any_cons, List.any_nil, Bool.or_false, Bool.false_or, Bool.or_true, Bool.true_or, setS, retS, exprS, cstE, op1E, op2E, opnE, consA, nilA, valT, andT, orT, notT, iteE, andE, orE, notE, callE, methE, m0, m1, one, skipS, brkS, cntS, raiseS, subS, parS, var0, set0, var1, set1, var2, set2, var3, set3, var4, set4, var5, set5, var6, set6, var7, set7, var8, set8, var9, set9, var10, set10, var11, set11, var12, set12, var13, set13, var14, set14, var15, set15, var16, set16, var17, set17, var18, set18, var19, set19, wp_bnd, wpr, wpe, wp_chk, bndr, bnde, List.append_nil, List.nil_append, List.cons_append, cond_true, cond_false, decide_eq_true_eq, slc_s1, slc_s2, slc_s3, slc_t1, slc_t2, slc_t3, slc_l1, slc_l2, slc_l3, chk_i, sliceE, add_ii, sub_ii, mul_ii, fdiv_ii, mod_ii, pow_ii, eq_ii, ne_ii, lt_ii, le_ii, gt_ii, ge_ii, add_ss, add_tt, mul_si, eq_ss, ne_ss, eq_bb, neg_i, abs_i, int_i, int_b, len_s, len_t, len_k, max_ii, min_ii, tr_b, tr_i, tr_s, tr_n, ie_i, is_i, isnt_i, ie_s, is_s, isnt_s, ie_b, is_b, isnt_b, ie_t, is_t, isnt_t, ie_l, is_l, isnt_l, ie_k, is_k, isnt_k, ie_n, is_n, isnt_n, ie_e, in_ss, nin_ss, sub_si, sub_ti, kst, end_rt, end_nx])
  refine wp_seq ?_
  unfold c_law_5
  (try simp only [eq_self, decide_true, decide_false, Bool.not_true, Bool.not_false, true_and, and_true, wp_isi, isK, List.any_cons, List.any_nil, Bool.or_false, Bool.false_or, Bool.or_true, Bool.true_or, setS, retS, exprS, cstE, op1E, op2E, opnE, consA, nilA, valT, andT, orT, notT, iteE, andE, orE, notE, callE, methE, m0, m1, one, skipS, brkS, cntS, raiseS, subS, parS, var0, set0, var1, set1, var2, set2, var3, set3, var4, set4, var5, set5, var6, set6, var7, set7, var8, set8, var9, set9, var10, set10, var11, set11, var12, set12, var13, set13, var14, set14, var15, set15, var16, set16, var17, set17, var18, set18, var19, set19, wp_bnd, wpr, wpe, wp_chk, bndr, bnde, List.append_nil, List.nil_append, List.cons_append, cond_true, cond_false, decide_eq_true_eq, slc_s1, slc_s2, slc_s3, slc_t1, slc_t2, slc_t3, slc_l1, slc_l2, slc_l3, chk_i, sliceE, add_ii, sub_ii, mul_ii, fdiv_ii, mod_ii, pow_ii, eq_ii, ne_ii, lt_ii, le_ii, gt_ii, ge_ii, add_ss, add_tt, mul_si, eq_ss, ne_ss, eq_bb, neg_i, abs_i, int_i, int_b, len_s, len_t, len_k, max_ii, min_ii, tr_b, tr_i, tr_s, tr_n, ie_i, is_i, isnt_i, ie_s, is_s, isnt_s, ie_b, is_b, isnt_b, ie_t, is_t, isnt_t, ie_l, is_l, isnt_l, ie_k, is_k, isnt_k, ie_n, is_n, isnt_n, ie_e, in_ss, nin_ss, sub_si, sub_ti, kst, end_rt, end_nx])
  refine sp_most lo hi fun S4 p4 => ?_
  have ok4 := ok3.pre p4
  (try simp only [eq_self, decide_true, decide_false, Bool.not_true, Bool.not_false, true_and, and_true, wp_isi, isK, List.any_cons, List.any_nil, Bool.or_false, Bool.false_or, Bool.or_true, Bool.true_or, setS, retS, exprS, cstE, op1E, op2E, opnE, consA, nilA, valT, andT, orT, notT, iteE, andE, orE, notE, callE, methE, m0, m1, one, skipS, brkS, cntS, raiseS, subS, parS, var0, set0, var1, set1, var2, set2, var3, set3, var4, set4, var5, set5, var6, set6, var7, set7, var8, set8, var9, set9, var10, set10, var11, set11, var12, set12, var13, set13, var14, set14, var15, set15, var16, set16, var17, set17, var18, set18, var19, set19, wp_bnd, wpr, wpe, wp_chk, bndr, bnde, List.append_nil, List.nil_append, List.cons_append, cond_true, cond_false, decide_eq_true_eq, slc_s1, slc_s2, slc_s3, slc_t1, slc_t2, slc_t3, slc_l1, slc_l2, slc_l3, chk_i, sliceE, add_ii, sub_ii, mul_ii, fdiv_ii, mod_ii, pow_ii, eq_ii, ne_ii, lt_ii, le_ii, gt_ii, ge_ii, add_ss, add_tt, mul_si, eq_ss, ne_ss, eq_bb, neg_i, abs_i, int_i, int_b, len_s, len_t, len_k, max_ii, min_ii, tr_b, tr_i, tr_s, tr_n, ie_i, is_i, isnt_i, ie_s, is_s, isnt_s, ie_b, is_b, isnt_b, ie_t, is_t, isnt_t, ie_l, is_l, isnt_l, ie_k, is_k, isnt_k, ie_n, is_n, isnt_n, ie_e, in_ss, nin_ss, sub_si, sub_ti, kst, end_rt, end_nx])
  refine wp_seq ?_
  unfold c_law_6
  (try simp only [eq_self, decide_true, decide_false, Bool.not_true, Bool.not_false, true_and, and_true, wp_isi, isK, List.any_cons, List.any_nil, Bool.or_false, Bool.false_or, Bool.or_true, Bool.true_or, setS, retS, exprS, cstE, op1E, op2E, opnE, consA, nilA, valT, andT, orT, notT, iteE, andE, orE, notE, callE, methE, m0, m1, one, skipS, brkS, cntS, raiseS, subS, parS, var0, set0, var1, set1, var2, set2, var3, set3, var4, set4, var5, set5, var6, set6, var7, set7, var8, set8, var9, set9, var10, set10, var11, set11, var12, set12, var13, set13, var14, set14, var15, set15, var16, set16, var17, set17, var18, set18, var19, set19, wp_bnd, wpr, wpe, wp_chk, bndr, bnde, List.append_nil, List.nil_append, List.cons_append, cond_true, cond_false, decide_eq_true_eq, slc_s1, slc_s2, slc_s3, slc_t1, slc_t2, slc_t3, slc_l1, slc_l2, slc_l3, chk_i, sliceE, add_ii, sub_ii, mul_ii, fdiv_ii, mod_ii, pow_ii, eq_ii, ne_ii, lt_ii, le_ii, gt_ii, ge_ii, add_ss, add_tt, mul_si, eq_ss, ne_ss, eq_bb, neg_i, abs_i, int_i, int_b, len_s, len_t, len_k, max_ii, min_ii, tr_b, tr_i, tr_s, tr_n, ie_i, is_i, isnt_i, ie_s, is_s, isnt_s, ie_b, is_b, isnt_b, ie_t, is_t, isnt_t, ie_l, is_l, isnt_l, ie_k, is_k, isnt_k, ie_n, is_n, isnt_n, ie_e, in_ss, nin_ss, sub_si, sub_ti, kst, end_rt, end_nx])
  refine sp_edge ok4.1 (by omega) fun r S5 ⟨k, er, k0, k1, _⟩ st ex => ?_
  subst er
  have k1 := k1 (by omega)
  have ok5 := ok4.trans ⟨st, ex⟩
  clear st ex
  (try simp only [eq_self, decide_true, decide_false, Bool.not_true, Bool.not_false, true_and, and_true, wp_isi, isK, List.any_cons, List.any_nil, Bool.or_false, Bool.false_or, Bool.or_true, Bool.true_or, setS, retS, exprS, cstE, op1E, op2E, opnE, consA, nilA, valT, andT, orT, notT, iteE, andE, orE, notE, callE, methE, m0, m1, one, skipS, brkS, cntS, raiseS, subS, parS, var0, set0, var1, set1, var2, set2, var3, set3, var4, set4, var5, set5, var6, set6, var7, set7, var8, set8, var9, set9, var10, set10, var11, set11, var12, set12, var13, set13, var14, set14, var15, set15, var16, set16, var17, set17, var18, set18, var19, set19, wp_bnd, wpr, wpe, wp_chk, bndr, bnde, List.append_nil, List.nil_append, List.cons_append, cond_true, cond_false, decide_eq_true_eq, slc_s1, slc_s2, slc_s3, slc_t1, slc_t2, slc_t3, slc_l1, slc_l2, slc_l3, chk_i, sliceE, add_ii, sub_ii, mul_ii, fdiv_ii, mod_ii, pow_ii, eq_ii, ne_ii, lt_ii, le_ii, gt_ii, ge_ii, add_ss, add_tt, mul_si, eq_ss, ne_ss, eq_bb, neg_i, abs_i, int_i, int_b, len_s, len_t, len_k, max_ii, min_ii, tr_b, tr_i, tr_s, tr_n, ie_i, is_i, isnt_i, ie_s, is_s, isnt_s, ie_b, is_b, isnt_b, ie_t, is_t, isnt_t, ie_l, is_l, isnt_l, ie_k, is_k, isnt_k, ie_n, is_n, isnt_n, ie_e, in_ss, nin_ss, sub_si, sub_ti, kst, end_rt, end_nx])
  refine sp_row ok5.1 lo hi ⟨k0, by omega⟩ fun t S6 lt tt ok6 => ?_
  have ok6 := ok5.trans ok6
  have okt : okT w (most w) t = true := okT_iff.mpr ⟨by omega, tt⟩
  (try simp only [eq_self, decide_true, decide_false, Bool.not_true, Bool.not_false, true_and, and_true, wp_isi, isK, List.any_cons, List.any_nil, Bool.or_false, Bool.false_or, Bool.or_true, Bool.true_or, setS, retS, exprS, cstE, op1E, op2E, opnE, consA, nilA, valT, andT, orT, notT, iteE, andE, orE, notE, callE, methE, m0, m1, one, skipS, brkS, cntS, raiseS, subS, parS, var0, set0, var1, set1, var2, set2, var3, set3, var4, set4, var5, set5, var6, set6, var7, set7, var8, set8, var9, set9, var10, set10, var11, set11, var12, set12, var13, set13, var14, set14, var15, set15, var16, set16, var17, set17, var18, set18, var19, set19, wp_bnd, wpr, wpe, wp_chk, bndr, bnde, List.append_nil, List.nil_append, List.cons_append, cond_true, cond_false, decide_eq_true_eq, slc_s1, slc_s2, slc_s3, slc_t1, slc_t2, slc_t3, slc_l1, slc_l2, slc_l3, chk_i, sliceE, add_ii, sub_ii, mul_ii, fdiv_ii, mod_ii, pow_ii, eq_ii, ne_ii, lt_ii, le_ii, gt_ii, ge_ii, add_ss, add_tt, mul_si, eq_ss, ne_ss, eq_bb, neg_i, abs_i, int_i, int_b, len_s, len_t, len_k, max_ii, min_ii, tr_b, tr_i, tr_s, tr_n, ie_i, is_i, isnt_i, ie_s, is_s, isnt_s, ie_b, is_b, isnt_b, ie_t, is_t, isnt_t, ie_l, is_l, isnt_l, ie_k, is_k, isnt_k, ie_n, is_n, isnt_n, ie_e, in_ss, nin_ss, sub_si, sub_ti, kst, end_rt, end_nx])
  refine wp_seq ?_
  unfold c_law_7
  simp only [eq_self, decide_true, decide_false, Bool.not_true, Bool.not_false, true_and, and_true, wp_isi, isK, List.any_cons, List.any_nil, Bool.or_false, Bool.false_or, Bool.or_true, Bool.true_or, setS, retS, exprS, cstE, op1E, op2E, opnE, consA, nilA, valT, andT, orT, notT, iteE, andE, orE, notE, callE, methE, m0, m1, one, skipS, brkS, cntS, raiseS, subS, parS, var0, set0, var1, set1, var2, set2, var3, set3, var4, set4, var5, set5, var6, set6, var7, set7, var8, set8, var9, set9, var10, set10, var11, set11, var12, set12, var13, set13, var14, set14, var15, set15, var16, set16, var17, set17, var18, set18, var19, set19, wp_bnd, wpr, wpe, wp_chk, bndr, bnde, List.append_nil, List.nil_append, List.cons_append, cond_true, cond_false, decide_eq_true_eq, slc_s1, slc_s2, slc_s3, slc_t1, slc_t2, slc_t3, slc_l1, slc_l2, slc_l3, chk_i, sliceE, add_ii, sub_ii, mul_ii, fdiv_ii, mod_ii, pow_ii, eq_ii, ne_ii, lt_ii, le_ii, gt_ii, ge_ii, add_ss, add_tt, mul_si, eq_ss, ne_ss, eq_bb, neg_i, abs_i, int_i, int_b, len_s, len_t, len_k, max_ii, min_ii, tr_b, tr_i, tr_s, tr_n, ie_i, is_i, isnt_i, ie_s, is_s, isnt_s, ie_b, is_b, isnt_b, ie_t, is_t, isnt_t, ie_l, is_l, isnt_l, ie_k, is_k, isnt_k, ie_n, is_n, isnt_n, ie_e, in_ss, nin_ss, sub_si, sub_ti, kst, end_rt, end_nx, sg_cut hi]
  refine sp_take ok6.1 (by omega) fun r S7 ⟨m, er, m0, m1, _⟩ st ex => ?_
  subst er
  have m1 := m1 (by omega)
  have ok7 := ok6.trans ⟨st, ex⟩
  clear st ex
  (try simp only [eq_self, decide_true, decide_false, Bool.not_true, Bool.not_false, true_and, and_true, wp_isi, isK, List.any_cons, List.any_nil, Bool.or_false, Bool.false_or, Bool.or_true, Bool.true_or, setS, retS, exprS, cstE, op1E, op2E, opnE, consA, nilA, valT, andT, orT, notT, iteE, andE, orE, notE, callE, methE, m0, m1, one, skipS, brkS, cntS, raiseS, subS, parS, var0, set0, var1, set1, var2, set2, var3, set3, var4, set4, var5, set5, var6, set6, var7, set7, var8, set8, var9, set9, var10, set10, var11, set11, var12, set12, var13, set13, var14, set14, var15, set15, var16, set16, var17, set17, var18, set18, var19, set19, wp_bnd, wpr, wpe, wp_chk, bndr, bnde, List.append_nil, List.nil_append, List.cons_append, cond_true, cond_false, decide_eq_true_eq, slc_s1, slc_s2, slc_s3, slc_t1, slc_t2, slc_t3, slc_l1, slc_l2, slc_l3, chk_i, sliceE, add_ii, sub_ii, mul_ii, fdiv_ii, mod_ii, pow_ii, eq_ii, ne_ii, lt_ii, le_ii, gt_ii, ge_ii, add_ss, add_tt, mul_si, eq_ss, ne_ss, eq_bb, neg_i, abs_i, int_i, int_b, len_s, len_t, len_k, max_ii, min_ii, tr_b, tr_i, tr_s, tr_n, ie_i, is_i, isnt_i, ie_s, is_s, isnt_s, ie_b, is_b, isnt_b, ie_t, is_t, isnt_t, ie_l, is_l, isnt_l, ie_k, is_k, isnt_k, ie_n, is_n, isnt_n, ie_e, in_ss, nin_ss, sub_si, sub_ti, kst, end_rt, end_nx])
  refine sp_free2 ok7.1 (by rw [sg_len]; omega) (by rw [sg_len]; omega) ⟨m0, by omega⟩ fun u S8 lu uu ok8 => ?_
  have ok8 := ok7.trans ok8
  have oku : okT w (most w) u = true := okT_iff.mpr ⟨by omega, fun c hc => sg_mem.mp (uu c hc)⟩
  (try simp only [eq_self, decide_true, decide_false, Bool.not_true, Bool.not_false, true_and, and_true, wp_isi, isK, List.any_cons, List.any_nil, Bool.or_false, Bool.false_or, Bool.or_true, Bool.true_or, setS, retS, exprS, cstE, op1E, op2E, opnE, consA, nilA, valT, andT, orT, notT, iteE, andE, orE, notE, callE, methE, m0, m1, one, skipS, brkS, cntS, raiseS, subS, parS, var0, set0, var1, set1, var2, set2, var3, set3, var4, set4, var5, set5, var6, set6, var7, set7, var8, set8, var9, set9, var10, set10, var11, set11, var12, set12, var13, set13, var14, set14, var15, set15, var16, set16, var17, set17, var18, set18, var19, set19, wp_bnd, wpr, wpe, wp_chk, bndr, bnde, List.append_nil, List.nil_append, List.cons_append, cond_true, cond_false, decide_eq_true_eq, slc_s1, slc_s2, slc_s3, slc_t1, slc_t2, slc_t3, slc_l1, slc_l2, slc_l3, chk_i, sliceE, add_ii, sub_ii, mul_ii, fdiv_ii, mod_ii, pow_ii, eq_ii, ne_ii, lt_ii, le_ii, gt_ii, ge_ii, add_ss, add_tt, mul_si, eq_ss, ne_ss, eq_bb, neg_i, abs_i, int_i, int_b, len_s, len_t, len_k, max_ii, min_ii, tr_b, tr_i, tr_s, tr_n, ie_i, is_i, isnt_i, ie_s, is_s, isnt_s, ie_b, is_b, isnt_b, ie_t, is_t, isnt_t, ie_l, is_l, isnt_l, ie_k, is_k, isnt_k, ie_n, is_n, isnt_n, ie_e, in_ss, nin_ss, sub_si, sub_ti, kst, end_rt, end_nx])
  refine wp_seq ?_
  unfold c_law_8
  refine wp_ite ?_
  (try simp only [eq_self, decide_true, decide_false, Bool.not_true, Bool.not_false, true_and, and_true, wp_isi, isK, List.any_cons, List.any_nil, Bool.or_false, Bool.false_or, Bool.or_true, Bool.true_or, setS, retS, exprS, cstE, op1E, op2E, opnE, consA, nilA, valT, andT, orT, notT, iteE, andE, orE, notE, callE, methE, m0, m1, one, skipS, brkS, cntS, raiseS, subS, parS, var0, set0, var1, set1, var2, set2, var3, set3, var4, set4, var5, set5, var6, set6, var7, set7, var8, set8, var9, set9, var10, set10, var11, set11, var12, set12, var13, set13, var14, set14, var15, set15, var16, set16, var17, set17, var18, set18, var19, set19, wp_bnd, wpr, wpe, wp_chk, bndr, bnde, List.append_nil, List.nil_append, List.cons_append, cond_true, cond_false, decide_eq_true_eq, slc_s1, slc_s2, slc_s3, slc_t1, slc_t2, slc_t3, slc_l1, slc_l2, slc_l3, chk_i, sliceE, add_ii, sub_ii, mul_ii, fdiv_ii, mod_ii, pow_ii, eq_ii, ne_ii, lt_ii, le_ii, gt_ii, ge_ii, add_ss, add_tt, mul_si, eq_ss, ne_ss, eq_bb, neg_i, abs_i, int_i, int_b, len_s, len_t, len_k, max_ii, min_ii, tr_b, tr_i, tr_s, tr_n, ie_i, is_i, isnt_i, ie_s, is_s, isnt_s, ie_b, is_b, isnt_b, ie_t, is_t, isnt_t, ie_l, is_l, isnt_l, ie_k, is_k, isnt_k, ie_n, is_n, isnt_n, ie_e, in_ss, nin_ss, sub_si, sub_ti, kst, end_rt, end_nx])
  refine sp_undone ho okt fun S9 p9 => ?_
  (try simp only [eq_self, decide_true, decide_false, Bool.not_true, Bool.not_false, true_and, and_true, wp_isi, isK, List.any_cons, List.any_nil, Bool.or_false, Bool.false_or, Bool.or_true, Bool.true_or, setS, retS, exprS, cstE, op1E, op2E, opnE, consA, nilA, valT, andT, orT, notT, iteE, andE, orE, notE, callE, methE, m0, m1, one, skipS, brkS, cntS, raiseS, subS, parS, var0, set0, var1, set1, var2, set2, var3, set3, var4, set4, var5, set5, var6, set6, var7, set7, var8, set8, var9, set9, var10, set10, var11, set11, var12, set12, var13, set13, var14, set14, var15, set15, var16, set16, var17, set17, var18, set18, var19, set19, wp_bnd, wpr, wpe, wp_chk, bndr, bnde, List.append_nil, List.nil_append, List.cons_append, cond_true, cond_false, decide_eq_true_eq, slc_s1, slc_s2, slc_s3, slc_t1, slc_t2, slc_t3, slc_l1, slc_l2, slc_l3, chk_i, sliceE, add_ii, sub_ii, mul_ii, fdiv_ii, mod_ii, pow_ii, eq_ii, ne_ii, lt_ii, le_ii, gt_ii, ge_ii, add_ss, add_tt, mul_si, eq_ss, ne_ss, eq_bb, neg_i, abs_i, int_i, int_b, len_s, len_t, len_k, max_ii, min_ii, tr_b, tr_i, tr_s, tr_n, ie_i, is_i, isnt_i, ie_s, is_s, isnt_s, ie_b, is_b, isnt_b, ie_t, is_t, isnt_t, ie_l, is_l, isnt_l, ie_k, is_k, isnt_k, ie_n, is_n, isnt_n, ie_e, in_ss, nin_ss, sub_si, sub_ti, kst, end_rt, end_nx])
  refine sp_undone hp oku fun S10 p10 => ?_
  (try simp only [eq_self, decide_true, decide_false, Bool.not_true, Bool.not_false, true_and, and_true, wp_isi, isK, List.any_cons, List.any_nil, Bool.or_false, Bool.false_or, Bool.or_true, Bool.true_or, setS, retS, exprS, cstE, op1E, op2E, opnE, consA, nilA, valT, andT, orT, notT, iteE, andE, orE, notE, callE, methE, m0, m1, one, skipS, brkS, cntS, raiseS, subS, parS, var0, set0, var1, set1, var2, set2, var3, set3, var4, set4, var5, set5, var6, set6, var7, set7, var8, set8, var9, set9, var10, set10, var11, set11, var12, set12, var13, set13, var14, set14, var15, set15, var16, set16, var17, set17, var18, set18, var19, set19, wp_bnd, wpr, wpe, wp_chk, bndr, bnde, List.append_nil, List.nil_append, List.cons_append, cond_true, cond_false, decide_eq_true_eq, slc_s1, slc_s2, slc_s3, slc_t1, slc_t2, slc_t3, slc_l1, slc_l2, slc_l3, chk_i, sliceE, add_ii, sub_ii, mul_ii, fdiv_ii, mod_ii, pow_ii, eq_ii, ne_ii, lt_ii, le_ii, gt_ii, ge_ii, add_ss, add_tt, mul_si, eq_ss, ne_ss, eq_bb, neg_i, abs_i, int_i, int_b, len_s, len_t, len_k, max_ii, min_ii, tr_b, tr_i, tr_s, tr_n, ie_i, is_i, isnt_i, ie_s, is_s, isnt_s, ie_b, is_b, isnt_b, ie_t, is_t, isnt_t, ie_l, is_l, isnt_l, ie_k, is_k, isnt_k, ie_n, is_n, isnt_n, ie_e, in_ss, nin_ss, sub_si, sub_ti, kst, end_rt, end_nx])
  refine sp_joint ho hp oku fun S11 p11 => ?_
  have ok11 := ok8.pre (p9.trans (p10.trans p11))
  (try simp only [eq_self, decide_true, decide_false, Bool.not_true, Bool.not_false, true_and, and_true, wp_isi, isK, List.any_cons, List.any_nil, Bool.or_false, Bool.false_or, Bool.or_true, Bool.true_or, setS, retS, exprS, cstE, op1E, op2E, opnE, consA, nilA, valT, andT, orT, notT, iteE, andE, orE, notE, callE, methE, m0, m1, one, skipS, brkS, cntS, raiseS, subS, parS, var0, set0, var1, set1, var2, set2, var3, set3, var4, set4, var5, set5, var6, set6, var7, set7, var8, set8, var9, set9, var10, set10, var11, set11, var12, set12, var13, set13, var14, set14, var15, set15, var16, set16, var17, set17, var18, set18, var19, set19, wp_bnd, wpr, wpe, wp_chk, bndr, bnde, List.append_nil, List.nil_append, List.cons_append, cond_true, cond_false, decide_eq_true_eq, slc_s1, slc_s2, slc_s3, slc_t1, slc_t2, slc_t3, slc_l1, slc_l2, slc_l3, chk_i, sliceE, add_ii, sub_ii, mul_ii, fdiv_ii, mod_ii, pow_ii, eq_ii, ne_ii, lt_ii, le_ii, gt_ii, ge_ii, add_ss, add_tt, mul_si, eq_ss, ne_ss, eq_bb, neg_i, abs_i, int_i, int_b, len_s, len_t, len_k, max_ii, min_ii, tr_b, tr_i, tr_s, tr_n, ie_i, is_i, isnt_i, ie_s, is_s, isnt_s, ie_b, is_b, isnt_b, ie_t, is_t, isnt_t, ie_l, is_l, isnt_l, ie_k, is_k, isnt_k, ie_n, is_n, isnt_n, ie_e, in_ss, nin_ss, sub_si, sub_ti, kst, end_rt, end_nx])
  refine ⟨(fun z => by cases z), fun _ => wp_seq ?_⟩
  unfold c_law_10
  simp only [eq_self, decide_true, decide_false, Bool.not_true, Bool.not_false, true_and, and_true, wp_isi, isK, List.any_cons, List.any_nil, Bool.or_false, Bool.false_or, Bool.or_true, Bool.true_or, setS, retS, exprS, cstE, op1E, op2E, opnE, consA, nilA, valT, andT, orT, notT, iteE, andE, orE, notE, callE, methE, m0, m1, one, skipS, brkS, cntS, raiseS, subS, parS, var0, set0, var1, set1, var2, set2, var3, set3, var4, set4, var5, set5, var6, set6, var7, set7, var8, set8, var9, set9, var10, set10, var11, set11, var12, set12, var13, set13, var14, set14, var15, set15, var16, set16, var17, set17, var18, set18, var19, set19, wp_bnd, wpr, wpe, wp_chk, bndr, bnde, List.append_nil, List.nil_append, List.cons_append, cond_true, cond_false, decide_eq_true_eq, slc_s1, slc_s2, slc_s3, slc_t1, slc_t2, slc_t3, slc_l1, slc_l2, slc_l3, chk_i, sliceE, add_ii, sub_ii, mul_ii, fdiv_ii, mod_ii, pow_ii, eq_ii, ne_ii, lt_ii, le_ii, gt_ii, ge_ii, add_ss, add_tt, mul_si, eq_ss, ne_ss, eq_bb, neg_i, abs_i, int_i, int_b, len_s, len_t, len_k, max_ii, min_ii, tr_b, tr_i, tr_s, tr_n, ie_i, is_i, isnt_i, ie_s, is_s, isnt_s, ie_b, is_b, isnt_b, ie_t, is_t, isnt_t, ie_l, is_l, isnt_l, ie_k, is_k, isnt_k, ie_n, is_n, isnt_n, ie_e, in_ss, nin_ss, sub_si, sub_ti, kst, end_rt, end_nx, sg_cut hi]
  refine sp_bad_text ok11.1 lo hi fun b S12 hb lb ok12 => ?_
  have ok12 := ok11.trans ok12
  (try simp only [eq_self, decide_true, decide_false, Bool.not_true, Bool.not_false, true_and, and_true, wp_isi, isK, List.any_cons, List.any_nil, Bool.or_false, Bool.false_or, Bool.or_true, Bool.true_or, setS, retS, exprS, cstE, op1E, op2E, opnE, consA, nilA, valT, andT, orT, notT, iteE, andE, orE, notE, callE, methE, m0, m1, one, skipS, brkS, cntS, raiseS, subS, parS, var0, set0, var1, set1, var2, set2, var3, set3, var4, set4, var5, set5, var6, set6, var7, set7, var8, set8, var9, set9, var10, set10, var11, set11, var12, set12, var13, set13, var14, set14, var15, set15, var16, set16, var17, set17, var18, set18, var19, set19, wp_bnd, wpr, wpe, wp_chk, bndr, bnde, List.append_nil, List.nil_append, List.cons_append, cond_true, cond_false, decide_eq_true_eq, slc_s1, slc_s2, slc_s3, slc_t1, slc_t2, slc_t3, slc_l1, slc_l2, slc_l3, chk_i, sliceE, add_ii, sub_ii, mul_ii, fdiv_ii, mod_ii, pow_ii, eq_ii, ne_ii, lt_ii, le_ii, gt_ii, ge_ii, add_ss, add_tt, mul_si, eq_ss, ne_ss, eq_bb, neg_i, abs_i, int_i, int_b, len_s, len_t, len_k, max_ii, min_ii, tr_b, tr_i, tr_s, tr_n, ie_i, is_i, isnt_i, ie_s, is_s, isnt_s, ie_b, is_b, isnt_b, ie_t, is_t, isnt_t, ie_l, is_l, isnt_l, ie_k, is_k, isnt_k, ie_n, is_n, isnt_n, ie_e, in_ss, nin_ss, sub_si, sub_ti, kst, end_rt, end_nx])
  refine wp_seq ?_
  unfold c_law_11
  refine wp_ite ?_
  (try simp only [eq_self, decide_true, decide_false, Bool.not_true, Bool.not_false, true_and, and_true, wp_isi, isK, List.any_cons, List.any_nil, Bool.or_false, Bool.false_or, Bool.or_true, Bool.true_or, setS, retS, exprS, cstE, op1E, op2E, opnE, consA, nilA, valT, andT, orT, notT, iteE, andE, orE, notE, callE, methE, m0, m1, one, skipS, brkS, cntS, raiseS, subS, parS, var0, set0, var1, set1, var2, set2, var3, set3, var4, set4, var5, set5, var6, set6, var7, set7, var8, set8, var9, set9, var10, set10, var11, set11, var12, set12, var13, set13, var14, set14, var15, set15, var16, set16, var17, set17, var18, set18, var19, set19, wp_bnd, wpr, wpe, wp_chk, bndr, bnde, List.append_nil, List.nil_append, List.cons_append, cond_true, cond_false, decide_eq_true_eq, slc_s1, slc_s2, slc_s3, slc_t1, slc_t2, slc_t3, slc_l1, slc_l2, slc_l3, chk_i, sliceE, add_ii, sub_ii, mul_ii, fdiv_ii, mod_ii, pow_ii, eq_ii, ne_ii, lt_ii, le_ii, gt_ii, ge_ii, add_ss, add_tt, mul_si, eq_ss, ne_ss, eq_bb, neg_i, abs_i, int_i, int_b, len_s, len_t, len_k, max_ii, min_ii, tr_b, tr_i, tr_s, tr_n, ie_i, is_i, isnt_i, ie_s, is_s, isnt_s, ie_b, is_b, isnt_b, ie_t, is_t, isnt_t, ie_l, is_l, isnt_l, ie_k, is_k, isnt_k, ie_n, is_n, isnt_n, ie_e, in_ss, nin_ss, sub_si, sub_ti, kst, end_rt, end_nx])
  refine sp_renamed_by ho (fun z => by rw [hb] at z; cases z) fun _ S13 p13 => ?_
  simp only [eq_self, decide_true, decide_false, Bool.not_true, Bool.not_false, true_and, and_true, wp_isi, isK, List.any_cons, List.any_nil, Bool.or_false, Bool.false_or, Bool.or_true, Bool.true_or, setS, retS, exprS, cstE, op1E, op2E, opnE, consA, nilA, valT, andT, orT, notT, iteE, andE, orE, notE, callE, methE, m0, m1, one, skipS, brkS, cntS, raiseS, subS, parS, var0, set0, var1, set1, var2, set2, var3, set3, var4, set4, var5, set5, var6, set6, var7, set7, var8, set8, var9, set9, var10, set10, var11, set11, var12, set12, var13, set13, var14, set14, var15, set15, var16, set16, var17, set17, var18, set18, var19, set19, wp_bnd, wpr, wpe, wp_chk, bndr, bnde, List.append_nil, List.nil_append, List.cons_append, cond_true, cond_false, decide_eq_true_eq, slc_s1, slc_s2, slc_s3, slc_t1, slc_t2, slc_t3, slc_l1, slc_l2, slc_l3, chk_i, sliceE, add_ii, sub_ii, mul_ii, fdiv_ii, mod_ii, pow_ii, eq_ii, ne_ii, lt_ii, le_ii, gt_ii, ge_ii, add_ss, add_tt, mul_si, eq_ss, ne_ss, eq_bb, neg_i, abs_i, int_i, int_b, len_s, len_t, len_k, max_ii, min_ii, tr_b, tr_i, tr_s, tr_n, ie_i, is_i, isnt_i, ie_s, is_s, isnt_s, ie_b, is_b, isnt_b, ie_t, is_t, isnt_t, ie_l, is_l, isnt_l, ie_k, is_k, isnt_k, ie_n, is_n, isnt_n, ie_e, in_ss, nin_ss, sub_si, sub_ti, kst, end_rt, end_nx, wp_mkTup]
  refine ⟨rfl, by simp [SZ], rfl, by simp [SZ], same_rr ?_⟩
  have ok13 := ok12.pre p13
  (try simp only [eq_self, decide_true, decide_false, Bool.not_true, Bool.not_false, true_and, and_true, wp_isi, isK, List.any_cons, List.any_nil, Bool.or_false, Bool.false_or, Bool.or_true, Bool.true_or, setS, retS, exprS, cstE, op1E, op2E, opnE, consA, nilA, valT, andT, orT, notT, iteE, andE, orE, notE, callE, methE, m0, m1, one, skipS, brkS, cntS, raiseS, subS, parS, var0, set0, var1, set1, var2, set2, var3, set3, var4, set4, var5, set5, var6, set6, var7, set7, var8, set8, var9, set9, var10, set10, var11, set11, var12, set12, var13, set13, var14, set14, var15, set15, var16, set16, var17, set17, var18, set18, var19, set19, wp_bnd, wpr, wpe, wp_chk, bndr, bnde, List.append_nil, List.nil_append, List.cons_append, cond_true, cond_false, decide_eq_true_eq, slc_s1, slc_s2, slc_s3, slc_t1, slc_t2, slc_t3, slc_l1, slc_l2, slc_l3, chk_i, sliceE, add_ii, sub_ii, mul_ii, fdiv_ii, mod_ii, pow_ii, eq_ii, ne_ii, lt_ii, le_ii, gt_ii, ge_ii, add_ss, add_tt, mul_si, eq_ss, ne_ss, eq_bb, neg_i, abs_i, int_i, int_b, len_s, len_t, len_k, max_ii, min_ii, tr_b, tr_i, tr_s, tr_n, ie_i, is_i, isnt_i, ie_s, is_s, isnt_s, ie_b, is_b, isnt_b, ie_t, is_t, isnt_t, ie_l, is_l, isnt_l, ie_k, is_k, isnt_k, ie_n, is_n, isnt_n, ie_e, in_ss, nin_ss, sub_si, sub_ti, kst, end_rt, end_nx])
  refine ⟨(fun z => by cases z), fun _ => wp_seq ?_⟩
  unfold c_law_13
  refine wp_ite ?_
  (try simp only [eq_self, decide_true, decide_false, Bool.not_true, Bool.not_false, true_and, and_true, wp_isi, isK, List.any_cons, List.any_nil, Bool.or_false, Bool.false_or, Bool.or_true, Bool.true_or, setS, retS, exprS, cstE, op1E, op2E, opnE, consA, nilA, valT, andT, orT, notT, iteE, andE, orE, notE, callE, methE, m0, m1, one, skipS, brkS, cntS, raiseS, subS, parS, var0, set0, var1, set1, var2, set2, var3, set3, var4, set4, var5, set5, var6, set6, var7, set7, var8, set8, var9, set9, var10, set10, var11, set11, var12, set12, var13, set13, var14, set14, var15, set15, var16, set16, var17, set17, var18, set18, var19, set19, wp_bnd, wpr, wpe, wp_chk, bndr, bnde, List.append_nil, List.nil_append, List.cons_append, cond_true, cond_false, decide_eq_true_eq, slc_s1, slc_s2, slc_s3, slc_t1, slc_t2, slc_t3, slc_l1, slc_l2, slc_l3, chk_i, sliceE, add_ii, sub_ii, mul_ii, fdiv_ii, mod_ii, pow_ii, eq_ii, ne_ii, lt_ii, le_ii, gt_ii, ge_ii, add_ss, add_tt, mul_si, eq_ss, ne_ss, eq_bb, neg_i, abs_i, int_i, int_b, len_s, len_t, len_k, max_ii, min_ii, tr_b, tr_i, tr_s, tr_n, ie_i, is_i, isnt_i, ie_s, is_s, isnt_s, ie_b, is_b, isnt_b, ie_t, is_t, isnt_t, ie_l, is_l, isnt_l, ie_k, is_k, isnt_k, ie_n, is_n, isnt_n, ie_e, in_ss, nin_ss, sub_si, sub_ti, kst, end_rt, end_nx])
  refine sp_bad_order ok13.1 fun bo S14 ok14 => ?_
  have ok14 := ok13.trans ok14
  (try simp only [eq_self, decide_true, decide_false, Bool.not_true, Bool.not_false, true_and, and_true, wp_isi, isK, List.any_cons, List.any_nil, Bool.or_false, Bool.false_or, Bool.or_true, Bool.true_or, setS, retS, exprS, cstE, op1E, op2E, opnE, consA, nilA, valT, andT, orT, notT, iteE, andE, orE, notE, callE, methE, m0, m1, one, skipS, brkS, cntS, raiseS, subS, parS, var0, set0, var1, set1, var2, set2, var3, set3, var4, set4, var5, set5, var6, set6, var7, set7, var8, set8, var9, set9, var10, set10, var11, set11, var12, set12, var13, set13, var14, set14, var15, set15, var16, set16, var17, set17, var18, set18, var19, set19, wp_bnd, wpr, wpe, wp_chk, bndr, bnde, List.append_nil, List.nil_append, List.cons_append, cond_true, cond_false, decide_eq_true_eq, slc_s1, slc_s2, slc_s3, slc_t1, slc_t2, slc_t3, slc_l1, slc_l2, slc_l3, chk_i, sliceE, add_ii, sub_ii, mul_ii, fdiv_ii, mod_ii, pow_ii, eq_ii, ne_ii, lt_ii, le_ii, gt_ii, ge_ii, add_ss, add_tt, mul_si, eq_ss, ne_ss, eq_bb, neg_i, abs_i, int_i, int_b, len_s, len_t, len_k, max_ii, min_ii, tr_b, tr_i, tr_s, tr_n, ie_i, is_i, isnt_i, ie_s, is_s, isnt_s, ie_b, is_b, isnt_b, ie_t, is_t, isnt_t, ie_l, is_l, isnt_l, ie_k, is_k, isnt_k, ie_n, is_n, isnt_n, ie_e, in_ss, nin_ss, sub_si, sub_ti, kst, end_rt, end_nx])
  refine sp_order_judged fun S15 p15 => ?_
  have ok15 := ok14.pre p15
  (try simp only [eq_self, decide_true, decide_false, Bool.not_true, Bool.not_false, true_and, and_true, wp_isi, isK, List.any_cons, List.any_nil, Bool.or_false, Bool.false_or, Bool.or_true, Bool.true_or, setS, retS, exprS, cstE, op1E, op2E, opnE, consA, nilA, valT, andT, orT, notT, iteE, andE, orE, notE, callE, methE, m0, m1, one, skipS, brkS, cntS, raiseS, subS, parS, var0, set0, var1, set1, var2, set2, var3, set3, var4, set4, var5, set5, var6, set6, var7, set7, var8, set8, var9, set9, var10, set10, var11, set11, var12, set12, var13, set13, var14, set14, var15, set15, var16, set16, var17, set17, var18, set18, var19, set19, wp_bnd, wpr, wpe, wp_chk, bndr, bnde, List.append_nil, List.nil_append, List.cons_append, cond_true, cond_false, decide_eq_true_eq, slc_s1, slc_s2, slc_s3, slc_t1, slc_t2, slc_t3, slc_l1, slc_l2, slc_l3, chk_i, sliceE, add_ii, sub_ii, mul_ii, fdiv_ii, mod_ii, pow_ii, eq_ii, ne_ii, lt_ii, le_ii, gt_ii, ge_ii, add_ss, add_tt, mul_si, eq_ss, ne_ss, eq_bb, neg_i, abs_i, int_i, int_b, len_s, len_t, len_k, max_ii, min_ii, tr_b, tr_i, tr_s, tr_n, ie_i, is_i, isnt_i, ie_s, is_s, isnt_s, ie_b, is_b, isnt_b, ie_t, is_t, isnt_t, ie_l, is_l, isnt_l, ie_k, is_k, isnt_k, ie_n, is_n, isnt_n, ie_e, in_ss, nin_ss, sub_si, sub_ti, kst, end_rt, end_nx])
  refine sp_bad_order ok15.1 fun bo S16 ok16 => ?_
  have ok16 := ok15.trans ok16
  (try simp only [eq_self, decide_true, decide_false, Bool.not_true, Bool.not_false, true_and, and_true, wp_isi, isK, List.any_cons, List.any_nil, Bool.or_false, Bool.false_or, Bool.or_true, Bool.true_or, setS, retS, exprS, cstE, op1E, op2E, opnE, consA, nilA, valT, andT, orT, notT, iteE, andE, orE, notE, callE, methE, m0, m1, one, skipS, brkS, cntS, raiseS, subS, parS, var0, set0, var1, set1, var2, set2, var3, set3, var4, set4, var5, set5, var6, set6, var7, set7, var8, set8, var9, set9, var10, set10, var11, set11, var12, set12, var13, set13, var14, set14, var15, set15, var16, set16, var17, set17, var18, set18, var19, set19, wp_bnd, wpr, wpe, wp_chk, bndr, bnde, List.append_nil, List.nil_append, List.cons_append, cond_true, cond_false, decide_eq_true_eq, slc_s1, slc_s2, slc_s3, slc_t1, slc_t2, slc_t3, slc_l1, slc_l2, slc_l3, chk_i, sliceE, add_ii, sub_ii, mul_ii, fdiv_ii, mod_ii, pow_ii, eq_ii, ne_ii, lt_ii, le_ii, gt_ii, ge_ii, add_ss, add_tt, mul_si, eq_ss, ne_ss, eq_bb, neg_i, abs_i, int_i, int_b, len_s, len_t, len_k, max_ii, min_ii, tr_b, tr_i, tr_s, tr_n, ie_i, is_i, isnt_i, ie_s, is_s, isnt_s, ie_b, is_b, isnt_b, ie_t, is_t, isnt_t, ie_l, is_l, isnt_l, ie_k, is_k, isnt_k, ie_n, is_n, isnt_n, ie_e, in_ss, nin_ss, sub_si, sub_ti, kst, end_rt, end_nx])
  refine sp_order_judged fun S17 p17 => ?_
  have ok17 := ok16.pre p17
  (try simp only [eq_self, decide_true, decide_false, Bool.not_true, Bool.not_false, true_and, and_true, wp_isi, isK, List.any_cons, List.any_nil, Bool.or_false, Bool.false_or, Bool.or_true, Bool.true_or, setS, retS, exprS, cstE, op1E, op2E, opnE, consA, nilA, valT, andT, orT, notT, iteE, andE, orE, notE, callE, methE, m0, m1, one, skipS, brkS, cntS, raiseS, subS, parS, var0, set0, var1, set1, var2, set2, var3, set3, var4, set4, var5, set5, var6, set6, var7, set7, var8, set8, var9, set9, var10, set10, var11, set11, var12, set12, var13, set13, var14, set14, var15, set15, var16, set16, var17, set17, var18, set18, var19, set19, wp_bnd, wpr, wpe, wp_chk, bndr, bnde, List.append_nil, List.nil_append, List.cons_append, cond_true, cond_false, decide_eq_true_eq, slc_s1, slc_s2, slc_s3, slc_t1, slc_t2, slc_t3, slc_l1, slc_l2, slc_l3, chk_i, sliceE, add_ii, sub_ii, mul_ii, fdiv_ii, mod_ii, pow_ii, eq_ii, ne_ii, lt_ii, le_ii, gt_ii, ge_ii, add_ss, add_tt, mul_si, eq_ss, ne_ss, eq_bb, neg_i, abs_i, int_i, int_b, len_s, len_t, len_k, max_ii, min_ii, tr_b, tr_i, tr_s, tr_n, ie_i, is_i, isnt_i, ie_s, is_s, isnt_s, ie_b, is_b, isnt_b, ie_t, is_t, isnt_t, ie_l, is_l, isnt_l, ie_k, is_k, isnt_k, ie_n, is_n, isnt_n, ie_e, in_ss, nin_ss, sub_si, sub_ti, kst, end_rt, end_nx])
  refine ⟨(fun z => by cases z), fun _ => wp_seq ?_⟩
  unfold c_law_15
  refine wp_forR ?_
  (try simp only [eq_self, decide_true, decide_false, Bool.not_true, Bool.not_false, true_and, and_true, wp_isi, isK, List.any_cons, List.any_nil, Bool.or_false, Bool.false_or, Bool.or_true, Bool.true_or, setS, retS, exprS, cstE, op1E, op2E, opnE, consA, nilA, valT, andT, orT, notT, iteE, andE, orE, notE, callE, methE, m0, m1, one, skipS, brkS, cntS, raiseS, subS, parS, var0, set0, var1, set1, var2, set2, var3, set3, var4, set4, var5, set5, var6, set6, var7, set7, var8, set8, var9, set9, var10, set10, var11, set11, var12, set12, var13, set13, var14, set14, var15, set15, var16, set16, var17, set17, var18, set18, var19, set19, wp_bnd, wpr, wpe, wp_chk, bndr, bnde, List.append_nil, List.nil_append, List.cons_append, cond_true, cond_false, decide_eq_true_eq, slc_s1, slc_s2, slc_s3, slc_t1, slc_t2, slc_t3, slc_l1, slc_l2, slc_l3, chk_i, sliceE, add_ii, sub_ii, mul_ii, fdiv_ii, mod_ii, pow_ii, eq_ii, ne_ii, lt_ii, le_ii, gt_ii, ge_ii, add_ss, add_tt, mul_si, eq_ss, ne_ss, eq_bb, neg_i, abs_i, int_i, int_b, len_s, len_t, len_k, max_ii, min_ii, tr_b, tr_i, tr_s, tr_n, ie_i, is_i, isnt_i, ie_s, is_s, isnt_s, ie_b, is_b, isnt_b, ie_t, is_t, isnt_t, ie_l, is_l, isnt_l, ie_k, is_k, isnt_k, ie_n, is_n, isnt_n, ie_e, in_ss, nin_ss, sub_si, sub_ti, kst, end_rt, end_nx])
  refine ⟨_, rfl, rgOk_i (by decide) (by decide), wp_rgGo (fun _ δ S' => Ok L N S S' ∧ ∃ x10 x11, δ = [some ns, some (.loc L), some (.int i), some (.int (w : Int)), some (.str o), some (.str p), some (.int (most w : Nat)), some (.str t), some (.str u), some (.str b), x10, x11, x12]) ⟨ok17, _, _, rfl⟩ (fun j δ S' hj ⟨ok, y10, y11, eδ⟩ => ?_) (fun δ S18 ⟨ok18, y10, y11, eδ⟩ => ?_)⟩
  · subst eδ
    refine wp_seq ?_
    unfold c_law_16
    simp only [eq_self, decide_true, decide_false, Bool.not_true, Bool.not_false, true_and, and_true, wp_isi, isK, List.any_cons, List.any_nil, Bool.or_false, Bool.false_or, Bool.or_true, Bool.true_or, setS, retS, exprS, cstE, op1E, op2E, opnE, consA, nilA, valT, andT, orT, notT, iteE, andE, orE, notE, callE, methE, m0, m1, one, skipS, brkS, cntS, raiseS, subS, parS, var0, set0, var1, set1, var2, set2, var3, set3, var4, set4, var5, set5, var6, set6, var7, set7, var8, set8, var9, set9, var10, set10, var11, set11, var12, set12, var13, set13, var14, set14, var15, set15, var16, set16, var17, set17, var18, set18, var19, set19, wp_bnd, wpr, wpe, wp_chk, bndr, bnde, List.append_nil, List.nil_append, List.cons_append, cond_true, cond_false, decide_eq_true_eq, slc_s1, slc_s2, slc_s3, slc_t1, slc_t2, slc_t3, slc_l1, slc_l2, slc_l3, chk_i, sliceE, add_ii, sub_ii, mul_ii, fdiv_ii, mod_ii, pow_ii, eq_ii, ne_ii, lt_ii, le_ii, gt_ii, ge_ii, add_ss, add_tt, mul_si, eq_ss, ne_ss, eq_bb, neg_i, abs_i, int_i, int_b, len_s, len_t, len_k, max_ii, min_ii, tr_b, tr_i, tr_s, tr_n, ie_i, is_i, isnt_i, ie_s, is_s, isnt_s, ie_b, is_b, isnt_b, ie_t, is_t, isnt_t, ie_l, is_l, isnt_l, ie_k, is_k, isnt_k, ie_n, is_n, isnt_n, ie_e, in_ss, nin_ss, sub_si, sub_ti, kst, end_rt, end_nx, List.set, wp_newL]
    refine ⟨rfl, by simp [SZ], ?_⟩
    have signs : ∃ bs : List (List Nat), [D.str [48, 49], D.str [48, 49, 50], D.str [48, 49, 50, 51], D.str [48, 49, 50, 51, 52], D.str [48, 49, 50, 51, 32, 45, 97]] = bs.map .str ∧ bs.length = 5 ∧ ∀ b, b ∈ bs → 0 < b.length ∧ b.length ≤ 1000 := ⟨[[48, 49], [48, 49, 50], [48, 49, 50, 51], [48, 49, 50, 51, 52], [48, 49, 50, 51, 32, 45, 97]], rfl, rfl, by decide⟩
    obtain ⟨bs, eb, nb, hb⟩ := signs
    rw [eb]
    have ok2 := ok.app (r := [Ob.lst true (bs.map .str)])
    have b2 : (S' ++ [Ob.lst true (bs.map .str)])[S'.length]? = _ := at_new
    have hne := ok.1.lt
    generalize S' ++ [Ob.lst true (bs.map .str)] = S2 at ok2 b2
    refine sp_take ok2.1 (by decide) fun r S3 ⟨u, er, u0, u1, _⟩ st3 ex3 => ?_
    subst er
    have u1 := u1 (by decide)
    have ok3 := ok2.trans ⟨st3, ex3⟩
    refine wp_1 (ex3 _ _ (by omega) b2) u0 (by omega) ?_
    have hsg := hb _ (List.getElem_mem (show u.toNat < bs.length by omega))
    generalize bs[u.toNat]'(by omega) = sg at hsg
    (try simp only [eq_self, decide_true, decide_false, Bool.not_true, Bool.not_false, true_and, and_true, wp_isi, isK, List.any_cons, List.any_nil, Bool.or_false, Bool.false_or, Bool.or_true, Bool.true_or, setS, retS, exprS, cstE, op1E, op2E, opnE, consA, nilA, valT, andT, orT, notT, iteE, andE, orE, notE, callE, methE, m0, m1, one, skipS, brkS, cntS, raiseS, subS, parS, var0, set0, var1, set1, var2, set2, var3, set3, var4, set4, var5, set5, var6, set6, var7, set7, var8, set8, var9, set9, var10, set10, var11, set11, var12, set12, var13, set13, var14, set14, var15, set15, var16, set16, var17, set17, var18, set18, var19, set19, wp_bnd, wpr, wpe, wp_chk, bndr, bnde, List.append_nil, List.nil_append, List.cons_append, cond_true, cond_false, decide_eq_true_eq, slc_s1, slc_s2, slc_s3, slc_t1, slc_t2, slc_t3, slc_l1, slc_l2, slc_l3, chk_i, sliceE, add_ii, sub_ii, mul_ii, fdiv_ii, mod_ii, pow_ii, eq_ii, ne_ii, lt_ii, le_ii, gt_ii, ge_ii, add_ss, add_tt, mul_si, eq_ss, ne_ss, eq_bb, neg_i, abs_i, int_i, int_b, len_s, len_t, len_k, max_ii, min_ii, tr_b, tr_i, tr_s, tr_n, ie_i, is_i, isnt_i, ie_s, is_s, isnt_s, ie_b, is_b, isnt_b, ie_t, is_t, isnt_t, ie_l, is_l, isnt_l, ie_k, is_k, isnt_k, ie_n, is_n, isnt_n, ie_e, in_ss, nin_ss, sub_si, sub_ti, kst, end_rt, end_nx])
    unfold c_law_17
    refine wp_ite ?_
    (try simp only [eq_self, decide_true, decide_false, Bool.not_true, Bool.not_false, true_and, and_true, wp_isi, isK, List.any_cons, List.any_nil, Bool.or_false, Bool.false_or, Bool.or_true, Bool.true_or, setS, retS, exprS, cstE, op1E, op2E, opnE, consA, nilA, valT, andT, orT, notT, iteE, andE, orE, notE, callE, methE, m0, m1, one, skipS, brkS, cntS, raiseS, subS, parS, var0, set0, var1, set1, var2, set2, var3, set3, var4, set4, var5, set5, var6, set6, var7, set7, var8, set8, var9, set9, var10, set10, var11, set11, var12, set12, var13, set13, var14, set14, var15, set15, var16, set16, var17, set17, var18, set18, var19, set19, wp_bnd, wpr, wpe, wp_chk, bndr, bnde, List.append_nil, List.nil_append, List.cons_append, cond_true, cond_false, decide_eq_true_eq, slc_s1, slc_s2, slc_s3, slc_t1, slc_t2, slc_t3, slc_l1, slc_l2, slc_l3, chk_i, sliceE, add_ii, sub_ii, mul_ii, fdiv_ii, mod_ii, pow_ii, eq_ii, ne_ii, lt_ii, le_ii, gt_ii, ge_ii, add_ss, add_tt, mul_si, eq_ss, ne_ss, eq_bb, neg_i, abs_i, int_i, int_b, len_s, len_t, len_k, max_ii, min_ii, tr_b, tr_i, tr_s, tr_n, ie_i, is_i, isnt_i, ie_s, is_s, isnt_s, ie_b, is_b, isnt_b, ie_t, is_t, isnt_t, ie_l, is_l, isnt_l, ie_k, is_k, isnt_k, ie_n, is_n, isnt_n, ie_e, in_ss, nin_ss, sub_si, sub_ti, kst, end_rt, end_nx])
    refine sp_take ok3.1 (by decide) fun r S4 ⟨m, er, m0, m1, _⟩ st ex => ?_
    subst er
    have m1 := m1 (by decide)
    have ok4 := ok3.trans ⟨st, ex⟩
    (try simp only [eq_self, decide_true, decide_false, Bool.not_true, Bool.not_false, true_and, and_true, wp_isi, isK, List.any_cons, List.any_nil, Bool.or_false, Bool.false_or, Bool.or_true, Bool.true_or, setS, retS, exprS, cstE, op1E, op2E, opnE, consA, nilA, valT, andT, orT, notT, iteE, andE, orE, notE, callE, methE, m0, m1, one, skipS, brkS, cntS, raiseS, subS, parS, var0, set0, var1, set1, var2, set2, var3, set3, var4, set4, var5, set5, var6, set6, var7, set7, var8, set8, var9, set9, var10, set10, var11, set11, var12, set12, var13, set13, var14, set14, var15, set15, var16, set16, var17, set17, var18, set18, var19, set19, wp_bnd, wpr, wpe, wp_chk, bndr, bnde, List.append_nil, List.nil_append, List.cons_append, cond_true, cond_false, decide_eq_true_eq, slc_s1, slc_s2, slc_s3, slc_t1, slc_t2, slc_t3, slc_l1, slc_l2, slc_l3, chk_i, sliceE, add_ii, sub_ii, mul_ii, fdiv_ii, mod_ii, pow_ii, eq_ii, ne_ii, lt_ii, le_ii, gt_ii, ge_ii, add_ss, add_tt, mul_si, eq_ss, ne_ss, eq_bb, neg_i, abs_i, int_i, int_b, len_s, len_t, len_k, max_ii, min_ii, tr_b, tr_i, tr_s, tr_n, ie_i, is_i, isnt_i, ie_s, is_s, isnt_s, ie_b, is_b, isnt_b, ie_t, is_t, isnt_t, ie_l, is_l, isnt_l, ie_k, is_k, isnt_k, ie_n, is_n, isnt_n, ie_e, in_ss, nin_ss, sub_si, sub_ti, kst, end_rt, end_nx])
    refine sp_free2 ok4.1 hsg.1 hsg.2 ⟨m0, by omega⟩ fun f S5 _ _ ok5 => ?_
    have ok5 := ok4.trans ok5
    (try simp only [eq_self, decide_true, decide_false, Bool.not_true, Bool.not_false, true_and, and_true, wp_isi, isK, List.any_cons, List.any_nil, Bool.or_false, Bool.false_or, Bool.or_true, Bool.true_or, setS, retS, exprS, cstE, op1E, op2E, opnE, consA, nilA, valT, andT, orT, notT, iteE, andE, orE, notE, callE, methE, m0, m1, one, skipS, brkS, cntS, raiseS, subS, parS, var0, set0, var1, set1, var2, set2, var3, set3, var4, set4, var5, set5, var6, set6, var7, set7, var8, set8, var9, set9, var10, set10, var11, set11, var12, set12, var13, set13, var14, set14, var15, set15, var16, set16, var17, set17, var18, set18, var19, set19, wp_bnd, wpr, wpe, wp_chk, bndr, bnde, List.append_nil, List.nil_append, List.cons_append, cond_true, cond_false, decide_eq_true_eq, slc_s1, slc_s2, slc_s3, slc_t1, slc_t2, slc_t3, slc_l1, slc_l2, slc_l3, chk_i, sliceE, add_ii, sub_ii, mul_ii, fdiv_ii, mod_ii, pow_ii, eq_ii, ne_ii, lt_ii, le_ii, gt_ii, ge_ii, add_ss, add_tt, mul_si, eq_ss, ne_ss, eq_bb, neg_i, abs_i, int_i, int_b, len_s, len_t, len_k, max_ii, min_ii, tr_b, tr_i, tr_s, tr_n, ie_i, is_i, isnt_i, ie_s, is_s, isnt_s, ie_b, is_b, isnt_b, ie_t, is_t, isnt_t, ie_l, is_l, isnt_l, ie_k, is_k, isnt_k, ie_n, is_n, isnt_n, ie_e, in_ss, nin_ss, sub_si, sub_ti, kst, end_rt, end_nx])
    refine sp_order_judged fun S6 p6 => ?_
    have ok6 := ok5.pre p6
    (try simp only [eq_self, decide_true, decide_false, Bool.not_true, Bool.not_false, true_and, and_true, wp_isi, isK, List.any_cons, List.any_nil, Bool.or_false, Bool.false_or, Bool.or_true, Bool.true_or, setS, retS, exprS, cstE, op1E, op2E, opnE, consA, nilA, valT, andT, orT, notT, iteE, andE, orE, notE, callE, methE, m0, m1, one, skipS, brkS, cntS, raiseS, subS, parS, var0, set0, var1, set1, var2, set2, var3, set3, var4, set4, var5, set5, var6, set6, var7, set7, var8, set8, var9, set9, var10, set10, var11, set11, var12, set12, var13, set13, var14, set14, var15, set15, var16, set16, var17, set17, var18, set18, var19, set19, wp_bnd, wpr, wpe, wp_chk, bndr, bnde, List.append_nil, List.nil_append, List.cons_append, cond_true, cond_false, decide_eq_true_eq, slc_s1, slc_s2, slc_s3, slc_t1, slc_t2, slc_t3, slc_l1, slc_l2, slc_l3, chk_i, sliceE, add_ii, sub_ii, mul_ii, fdiv_ii, mod_ii, pow_ii, eq_ii, ne_ii, lt_ii, le_ii, gt_ii, ge_ii, add_ss, add_tt, mul_si, eq_ss, ne_ss, eq_bb, neg_i, abs_i, int_i, int_b, len_s, len_t, len_k, max_ii, min_ii, tr_b, tr_i, tr_s, tr_n, ie_i, is_i, isnt_i, ie_s, is_s, isnt_s, ie_b, is_b, isnt_b, ie_t, is_t, isnt_t, ie_l, is_l, isnt_l, ie_k, is_k, isnt_k, ie_n, is_n, isnt_n, ie_e, in_ss, nin_ss, sub_si, sub_ti, kst, end_rt, end_nx])
    exact ⟨(fun z => by cases z), fun _ => ⟨ok6, _, _, rfl⟩⟩
  subst eδ
  refine wp_seq ?_
  unfold c_law_19
  (try simp only [eq_self, decide_true, decide_false, Bool.not_true, Bool.not_false, true_and, and_true, wp_isi, isK, List.any_cons, List.any_nil, Bool.or_false, Bool.false_or, Bool.or_true, Bool.true_or, setS, retS, exprS, cstE, op1E, op2E, opnE, consA, nilA, valT, andT, orT, notT, iteE, andE, orE, notE, callE, methE, m0, m1, one, skipS, brkS, cntS, raiseS, subS, parS, var0, set0, var1, set1, var2, set2, var3, set3, var4, set4, var5, set5, var6, set6, var7, set7, var8, set8, var9, set9, var10, set10, var11, set11, var12, set12, var13, set13, var14, set14, var15, set15, var16, set16, var17, set17, var18, set18, var19, set19, wp_bnd, wpr, wpe, wp_chk, bndr, bnde, List.append_nil, List.nil_append, List.cons_append, cond_true, cond_false, decide_eq_true_eq, slc_s1, slc_s2, slc_s3, slc_t1, slc_t2, slc_t3, slc_l1, slc_l2, slc_l3, chk_i, sliceE, add_ii, sub_ii, mul_ii, fdiv_ii, mod_ii, pow_ii, eq_ii, ne_ii, lt_ii, le_ii, gt_ii, ge_ii, add_ss, add_tt, mul_si, eq_ss, ne_ss, eq_bb, neg_i, abs_i, int_i, int_b, len_s, len_t, len_k, max_ii, min_ii, tr_b, tr_i, tr_s, tr_n, ie_i, is_i, isnt_i, ie_s, is_s, isnt_s, ie_b, is_b, isnt_b, ie_t, is_t, isnt_t, ie_l, is_l, isnt_l, ie_k, is_k, isnt_k, ie_n, is_n, isnt_n, ie_e, in_ss, nin_ss, sub_si, sub_ti, kst, end_rt, end_nx])
  refine wp_seq ?_
  have l1 : (cutL o none (some ((o.length : Int) - 1))).length ≤ o.length := cutL_lt
  have hl := ho.len
  generalize cutL o none (some ((o.length : Int) - 1)) = near at l1
  unfold c_law_20
  refine wp_ite ?_
  (try simp only [eq_self, decide_true, decide_false, Bool.not_true, Bool.not_false, true_and, and_true, wp_isi, isK, List.any_cons, List.any_nil, Bool.or_false, Bool.false_or, Bool.or_true, Bool.true_or, setS, retS, exprS, cstE, op1E, op2E, opnE, consA, nilA, valT, andT, orT, notT, iteE, andE, orE, notE, callE, methE, m0, m1, one, skipS, brkS, cntS, raiseS, subS, parS, var0, set0, var1, set1, var2, set2, var3, set3, var4, set4, var5, set5, var6, set6, var7, set7, var8, set8, var9, set9, var10, set10, var11, set11, var12, set12, var13, set13, var14, set14, var15, set15, var16, set16, var17, set17, var18, set18, var19, set19, wp_bnd, wpr, wpe, wp_chk, bndr, bnde, List.append_nil, List.nil_append, List.cons_append, cond_true, cond_false, decide_eq_true_eq, slc_s1, slc_s2, slc_s3, slc_t1, slc_t2, slc_t3, slc_l1, slc_l2, slc_l3, chk_i, sliceE, add_ii, sub_ii, mul_ii, fdiv_ii, mod_ii, pow_ii, eq_ii, ne_ii, lt_ii, le_ii, gt_ii, ge_ii, add_ss, add_tt, mul_si, eq_ss, ne_ss, eq_bb, neg_i, abs_i, int_i, int_b, len_s, len_t, len_k, max_ii, min_ii, tr_b, tr_i, tr_s, tr_n, ie_i, is_i, isnt_i, ie_s, is_s, isnt_s, ie_b, is_b, isnt_b, ie_t, is_t, isnt_t, ie_l, is_l, isnt_l, ie_k, is_k, isnt_k, ie_n, is_n, isnt_n, ie_e, in_ss, nin_ss, sub_si, sub_ti, kst, end_rt, end_nx])
  refine sp_order_judged fun S19 p19 => ?_
  have ok19 := ok18.pre p19
  (try simp only [eq_self, decide_true, decide_false, Bool.not_true, Bool.not_false, true_and, and_true, wp_isi, isK, List.any_cons, List.any_nil, Bool.or_false, Bool.false_or, Bool.or_true, Bool.true_or, setS, retS, exprS, cstE, op1E, op2E, opnE, consA, nilA, valT, andT, orT, notT, iteE, andE, orE, notE, callE, methE, m0, m1, one, skipS, brkS, cntS, raiseS, subS, parS, var0, set0, var1, set1, var2, set2, var3, set3, var4, set4, var5, set5, var6, set6, var7, set7, var8, set8, var9, set9, var10, set10, var11, set11, var12, set12, var13, set13, var14, set14, var15, set15, var16, set16, var17, set17, var18, set18, var19, set19, wp_bnd, wpr, wpe, wp_chk, bndr, bnde, List.append_nil, List.nil_append, List.cons_append, cond_true, cond_false, decide_eq_true_eq, slc_s1, slc_s2, slc_s3, slc_t1, slc_t2, slc_t3, slc_l1, slc_l2, slc_l3, chk_i, sliceE, add_ii, sub_ii, mul_ii, fdiv_ii, mod_ii, pow_ii, eq_ii, ne_ii, lt_ii, le_ii, gt_ii, ge_ii, add_ss, add_tt, mul_si, eq_ss, ne_ss, eq_bb, neg_i, abs_i, int_i, int_b, len_s, len_t, len_k, max_ii, min_ii, tr_b, tr_i, tr_s, tr_n, ie_i, is_i, isnt_i, ie_s, is_s, isnt_s, ie_b, is_b, isnt_b, ie_t, is_t, isnt_t, ie_l, is_l, isnt_l, ie_k, is_k, isnt_k, ie_n, is_n, isnt_n, ie_e, in_ss, nin_ss, sub_si, sub_ti, kst, end_rt, end_nx])
  refine ⟨by simp [SZ]; omega, ?_⟩
  refine sp_order_judged fun S20 p20 => ?_
  have ok20 := ok19.pre p20
  (try simp only [eq_self, decide_true, decide_false, Bool.not_true, Bool.not_false, true_and, and_true, wp_isi, isK, List.any_cons, List.any_nil, Bool.or_false, Bool.false_or, Bool.or_true, Bool.true_or, setS, retS, exprS, cstE, op1E, op2E, opnE, consA, nilA, valT, andT, orT, notT, iteE, andE, orE, notE, callE, methE, m0, m1, one, skipS, brkS, cntS, raiseS, subS, parS, var0, set0, var1, set1, var2, set2, var3, set3, var4, set4, var5, set5, var6, set6, var7, set7, var8, set8, var9, set9, var10, set10, var11, set11, var12, set12, var13, set13, var14, set14, var15, set15, var16, set16, var17, set17, var18, set18, var19, set19, wp_bnd, wpr, wpe, wp_chk, bndr, bnde, List.append_nil, List.nil_append, List.cons_append, cond_true, cond_false, decide_eq_true_eq, slc_s1, slc_s2, slc_s3, slc_t1, slc_t2, slc_t3, slc_l1, slc_l2, slc_l3, chk_i, sliceE, add_ii, sub_ii, mul_ii, fdiv_ii, mod_ii, pow_ii, eq_ii, ne_ii, lt_ii, le_ii, gt_ii, ge_ii, add_ss, add_tt, mul_si, eq_ss, ne_ss, eq_bb, neg_i, abs_i, int_i, int_b, len_s, len_t, len_k, max_ii, min_ii, tr_b, tr_i, tr_s, tr_n, ie_i, is_i, isnt_i, ie_s, is_s, isnt_s, ie_b, is_b, isnt_b, ie_t, is_t, isnt_t, ie_l, is_l, isnt_l, ie_k, is_k, isnt_k, ie_n, is_n, isnt_n, ie_e, in_ss, nin_ss, sub_si, sub_ti, kst, end_rt, end_nx])
  refine ⟨(fun z => by cases z), fun _ => ?_⟩
  unfold c_law_22
  refine wp_ite ?_
  (try simp only [eq_self, decide_true, decide_false, Bool.not_true, Bool.not_false, true_and, and_true, wp_isi, isK, List.any_cons, List.any_nil, Bool.or_false, Bool.false_or, Bool.or_true, Bool.true_or, setS, retS, exprS, cstE, op1E, op2E, opnE, consA, nilA, valT, andT, orT, notT, iteE, andE, orE, notE, callE, methE, m0, m1, one, skipS, brkS, cntS, raiseS, subS, parS, var0, set0, var1, set1, var2, set2, var3, set3, var4, set4, var5, set5, var6, set6, var7, set7, var8, set8, var9, set9, var10, set10, var11, set11, var12, set12, var13, set13, var14, set14, var15, set15, var16, set16, var17, set17, var18, set18, var19, set19, wp_bnd, wpr, wpe, wp_chk, bndr, bnde, List.append_nil, List.nil_append, List.cons_append, cond_true, cond_false, decide_eq_true_eq, slc_s1, slc_s2, slc_s3, slc_t1, slc_t2, slc_t3, slc_l1, slc_l2, slc_l3, chk_i, sliceE, add_ii, sub_ii, mul_ii, fdiv_ii, mod_ii, pow_ii, eq_ii, ne_ii, lt_ii, le_ii, gt_ii, ge_ii, add_ss, add_tt, mul_si, eq_ss, ne_ss, eq_bb, neg_i, abs_i, int_i, int_b, len_s, len_t, len_k, max_ii, min_ii, tr_b, tr_i, tr_s, tr_n, ie_i, is_i, isnt_i, ie_s, is_s, isnt_s, ie_b, is_b, isnt_b, ie_t, is_t, isnt_t, ie_l, is_l, isnt_l, ie_k, is_k, isnt_k, ie_n, is_n, isnt_n, ie_e, in_ss, nin_ss, sub_si, sub_ti, kst, end_rt, end_nx])
  refine sp_undone ho okt fun S21 p21 => ?_
  (try simp only [eq_self, decide_true, decide_false, Bool.not_true, Bool.not_false, true_and, and_true, wp_isi, isK, List.any_cons, List.any_nil, Bool.or_false, Bool.false_or, Bool.or_true, Bool.true_or, setS, retS, exprS, cstE, op1E, op2E, opnE, consA, nilA, valT, andT, orT, notT, iteE, andE, orE, notE, callE, methE, m0, m1, one, skipS, brkS, cntS, raiseS, subS, parS, var0, set0, var1, set1, var2, set2, var3, set3, var4, set4, var5, set5, var6, set6, var7, set7, var8, set8, var9, set9, var10, set10, var11, set11, var12, set12, var13, set13, var14, set14, var15, set15, var16, set16, var17, set17, var18, set18, var19, set19, wp_bnd, wpr, wpe, wp_chk, bndr, bnde, List.append_nil, List.nil_append, List.cons_append, cond_true, cond_false, decide_eq_true_eq, slc_s1, slc_s2, slc_s3, slc_t1, slc_t2, slc_t3, slc_l1, slc_l2, slc_l3, chk_i, sliceE, add_ii, sub_ii, mul_ii, fdiv_ii, mod_ii, pow_ii, eq_ii, ne_ii, lt_ii, le_ii, gt_ii, ge_ii, add_ss, add_tt, mul_si, eq_ss, ne_ss, eq_bb, neg_i, abs_i, int_i, int_b, len_s, len_t, len_k, max_ii, min_ii, tr_b, tr_i, tr_s, tr_n, ie_i, is_i, isnt_i, ie_s, is_s, isnt_s, ie_b, is_b, isnt_b, ie_t, is_t, isnt_t, ie_l, is_l, isnt_l, ie_k, is_k, isnt_k, ie_n, is_n, isnt_n, ie_e, in_ss, nin_ss, sub_si, sub_ti, kst, end_rt, end_nx])
  refine sp_joint hp ho okt fun S22 p22 => ?_
  (try simp only [eq_self, decide_true, decide_false, Bool.not_true, Bool.not_false, true_and, and_true, wp_isi, isK, List.any_cons, List.any_nil, Bool.or_false, Bool.false_or, Bool.or_true, Bool.true_or, setS, retS, exprS, cstE, op1E, op2E, opnE, consA, nilA, valT, andT, orT, notT, iteE, andE, orE, notE, callE, methE, m0, m1, one, skipS, brkS, cntS, raiseS, subS, parS, var0, set0, var1, set1, var2, set2, var3, set3, var4, set4, var5, set5, var6, set6, var7, set7, var8, set8, var9, set9, var10, set10, var11, set11, var12, set12, var13, set13, var14, set14, var15, set15, var16, set16, var17, set17, var18, set18, var19, set19, wp_bnd, wpr, wpe, wp_chk, bndr, bnde, List.append_nil, List.nil_append, List.cons_append, cond_true, cond_false, decide_eq_true_eq, slc_s1, slc_s2, slc_s3, slc_t1, slc_t2, slc_t3, slc_l1, slc_l2, slc_l3, chk_i, sliceE, add_ii, sub_ii, mul_ii, fdiv_ii, mod_ii, pow_ii, eq_ii, ne_ii, lt_ii, le_ii, gt_ii, ge_ii, add_ss, add_tt, mul_si, eq_ss, ne_ss, eq_bb, neg_i, abs_i, int_i, int_b, len_s, len_t, len_k, max_ii, min_ii, tr_b, tr_i, tr_s, tr_n, ie_i, is_i, isnt_i, ie_s, is_s, isnt_s, ie_b, is_b, isnt_b, ie_t, is_t, isnt_t, ie_l, is_l, isnt_l, ie_k, is_k, isnt_k, ie_n, is_n, isnt_n, ie_e, in_ss, nin_ss, sub_si, sub_ti, kst, end_rt, end_nx])
  exact ⟨(fun z => by cases z), fun _ => hq _ _ _ _ _ _ _ _ _ _ _ (ok20.pre (p21.trans p22))⟩
theorem law_spec : ∀ ns : List Int, ns.length ≤ 63 → (∀ k ∈ ns, PySem.Builtin.Int.intBits k ≤ 1048576) → Wp (callF tb.pg.tab (60 + 1) 29 [.kl (ns.map .int)]) [] (fun d _ => d = .bl true) fun _ _ _ => False := by
  intro ns hn _
  rw [LT_eq, e_law]
  unfold c_law
  refine wp_def (wp_seq ?_)
  unfold c_law_0
  (try simp only [eq_self, decide_true, decide_false, Bool.not_true, Bool.not_false, true_and, and_true, wp_isi, isK, List.any_cons, List.any_nil, Bool.or_false, Bool.false_or, Bool.or_true, Bool.true_or, setS, retS, exprS, cstE, op1E, op2E, opnE, consA, nilA, valT, andT, orT, notT, iteE, andE, orE, notE, callE, methE, m0, m1, one, skipS, brkS, cntS, raiseS, subS, parS, var0, set0, var1, set1, var2, set2, var3, set3, var4, set4, var5, set5, var6, set6, var7, set7, var8, set8, var9, set9, var10, set10, var11, set11, var12, set12, var13, set13, var14, set14, var15, set15, var16, set16, var17, set17, var18, set18, var19, set19, wp_bnd, wpr, wpe, wp_chk, bndr, bnde, List.append_nil, List.nil_append, List.cons_append, cond_true, cond_false, decide_eq_true_eq, slc_s1, slc_s2, slc_s3, slc_t1, slc_t2, slc_t3, slc_l1, slc_l2, slc_l3, chk_i, sliceE, add_ii, sub_ii, mul_ii, fdiv_ii, mod_ii, pow_ii, eq_ii, ne_ii, lt_ii, le_ii, gt_ii, ge_ii, add_ss, add_tt, mul_si, eq_ss, ne_ss, eq_bb, neg_i, abs_i, int_i, int_b, len_s, len_t, len_k, max_ii, min_ii, tr_b, tr_i, tr_s, tr_n, ie_i, is_i, isnt_i, ie_s, is_s, isnt_s, ie_b, is_b, isnt_b, ie_t, is_t, isnt_t, ie_l, is_l, isnt_l, ie_k, is_k, isnt_k, ie_n, is_n, isnt_n, ie_e, in_ss, nin_ss, sub_si, sub_ti, kst, end_rt, end_nx])
  refine sp_store hn fun L N S1 h1 => ?_
  (try simp only [eq_self, decide_true, decide_false, Bool.not_true, Bool.not_false, true_and, and_true, wp_isi, isK, List.any_cons, List.any_nil, Bool.or_false, Bool.false_or, Bool.or_true, Bool.true_or, setS, retS, exprS, cstE, op1E, op2E, opnE, consA, nilA, valT, andT, orT, notT, iteE, andE, orE, notE, callE, methE, m0, m1, one, skipS, brkS, cntS, raiseS, subS, parS, var0, set0, var1, set1, var2, set2, var3, set3, var4, set4, var5, set5, var6, set6, var7, set7, var8, set8, var9, set9, var10, set10, var11, set11, var12, set12, var13, set13, var14, set14, var15, set15, var16, set16, var17, set17, var18, set18, var19, set19, wp_bnd, wpr, wpe, wp_chk, bndr, bnde, List.append_nil, List.nil_append, List.cons_append, cond_true, cond_false, decide_eq_true_eq, slc_s1, slc_s2, slc_s3, slc_t1, slc_t2, slc_t3, slc_l1, slc_l2, slc_l3, chk_i, sliceE, add_ii, sub_ii, mul_ii, fdiv_ii, mod_ii, pow_ii, eq_ii, ne_ii, lt_ii, le_ii, gt_ii, ge_ii, add_ss, add_tt, mul_si, eq_ss, ne_ss, eq_bb, neg_i, abs_i, int_i, int_b, len_s, len_t, len_k, max_ii, min_ii, tr_b, tr_i, tr_s, tr_n, ie_i, is_i, isnt_i, ie_s, is_s, isnt_s, ie_b, is_b, isnt_b, ie_t, is_t, isnt_t, ie_l, is_l, isnt_l, ie_k, is_k, isnt_k, ie_n, is_n, isnt_n, ie_e, in_ss, nin_ss, sub_si, sub_ti, kst, end_rt, end_nx])
  refine wp_seq ?_
  unfold c_law_1
  refine wp_forR ?_
  (try simp only [eq_self, decide_true, decide_false, Bool.not_true, Bool.not_false, true_and, and_true, wp_isi, isK, List.any_cons, List.any_nil, Bool.or_false, Bool.false_or, Bool.or_true, Bool.true_or, setS, retS, exprS, cstE, op1E, op2E, opnE, consA, nilA, valT, andT, orT, notT, iteE, andE, orE, notE, callE, methE, m0, m1, one, skipS, brkS, cntS, raiseS, subS, parS, var0, set0, var1, set1, var2, set2, var3, set3, var4, set4, var5, set5, var6, set6, var7, set7, var8, set8, var9, set9, var10, set10, var11, set11, var12, set12, var13, set13, var14, set14, var15, set15, var16, set16, var17, set17, var18, set18, var19, set19, wp_bnd, wpr, wpe, wp_chk, bndr, bnde, List.append_nil, List.nil_append, List.cons_append, cond_true, cond_false, decide_eq_true_eq, slc_s1, slc_s2, slc_s3, slc_t1, slc_t2, slc_t3, slc_l1, slc_l2, slc_l3, chk_i, sliceE, add_ii, sub_ii, mul_ii, fdiv_ii, mod_ii, pow_ii, eq_ii, ne_ii, lt_ii, le_ii, gt_ii, ge_ii, add_ss, add_tt, mul_si, eq_ss, ne_ss, eq_bb, neg_i, abs_i, int_i, int_b, len_s, len_t, len_k, max_ii, min_ii, tr_b, tr_i, tr_s, tr_n, ie_i, is_i, isnt_i, ie_s, is_s, isnt_s, ie_b, is_b, isnt_b, ie_t, is_t, isnt_t, ie_l, is_l, isnt_l, ie_k, is_k, isnt_k, ie_n, is_n, isnt_n, ie_e, in_ss, nin_ss, sub_si, sub_ti, kst, end_rt, end_nx])
  refine sp_take h1 (by omega) fun r S2 ⟨k, er, k0, k1, _⟩ st2 ex2 => ?_
  subst er
  have k1 := k1 (by decide)
  (try simp only [eq_self, decide_true, decide_false, Bool.not_true, Bool.not_false, true_and, and_true, wp_isi, isK, List.any_cons, List.any_nil, Bool.or_false, Bool.false_or, Bool.or_true, Bool.true_or, setS, retS, exprS, cstE, op1E, op2E, opnE, consA, nilA, valT, andT, orT, notT, iteE, andE, orE, notE, callE, methE, m0, m1, one, skipS, brkS, cntS, raiseS, subS, parS, var0, set0, var1, set1, var2, set2, var3, set3, var4, set4, var5, set5, var6, set6, var7, set7, var8, set8, var9, set9, var10, set10, var11, set11, var12, set12, var13, set13, var14, set14, var15, set15, var16, set16, var17, set17, var18, set18, var19, set19, wp_bnd, wpr, wpe, wp_chk, bndr, bnde, List.append_nil, List.nil_append, List.cons_append, cond_true, cond_false, decide_eq_true_eq, slc_s1, slc_s2, slc_s3, slc_t1, slc_t2, slc_t3, slc_l1, slc_l2, slc_l3, chk_i, sliceE, add_ii, sub_ii, mul_ii, fdiv_ii, mod_ii, pow_ii, eq_ii, ne_ii, lt_ii, le_ii, gt_ii, ge_ii, add_ss, add_tt, mul_si, eq_ss, ne_ss, eq_bb, neg_i, abs_i, int_i, int_b, len_s, len_t, len_k, max_ii, min_ii, tr_b, tr_i, tr_s, tr_n, ie_i, is_i, isnt_i, ie_s, is_s, isnt_s, ie_b, is_b, isnt_b, ie_t, is_t, isnt_t, ie_l, is_l, isnt_l, ie_k, is_k, isnt_k, ie_n, is_n, isnt_n, ie_e, in_ss, nin_ss, sub_si, sub_ti, kst, end_rt, end_nx])
  refine ⟨_, rfl, rgOk_i (by omega) (by omega), wp_rgGo (fun _ δ S' => StO L N S' ∧ ∃ x2 x3 x4 x5 x6 x7 x8 x9 x10 x11 x12, δ = [some (.kl (ns.map .int)), some (.loc L), x2, x3, x4, x5, x6, x7, x8, x9, x10, x11, x12]) ⟨st2, _, _, _, _, _, _, _, _, _, _, _, rfl⟩ (fun i δ S' hi ⟨st, x2, x3, x4, x5, x6, x7, x8, x9, x10, x11, x12, eδ⟩ => ?_) (fun δ S' ⟨st, x2, x3, x4, x5, x6, x7, x8, x9, x10, x11, x12, eδ⟩ => ?_)⟩
  · subst eδ
    refine law_turn (n := 53) st fun x3 x4 x5 x6 x7 x8 x9 x10 x11 x12 S3 ok => ⟨ok.1, _, _, _, _, _, _, _, _, _, _, _, rfl⟩
  · subst eδ
    unfold c_law_24
    (try simp only [eq_self, decide_true, decide_false, Bool.not_true, Bool.not_false, true_and, and_true, wp_isi, isK, List.any_cons, List.any_nil, Bool.or_false, Bool.false_or, Bool.or_true, Bool.true_or, setS, retS, exprS, cstE, op1E, op2E, opnE, consA, nilA, valT, andT, orT, notT, iteE, andE, orE, notE, callE, methE, m0, m1, one, skipS, brkS, cntS, raiseS, subS, parS, var0, set0, var1, set1, var2, set2, var3, set3, var4, set4, var5, set5, var6, set6, var7, set7, var8, set8, var9, set9, var10, set10, var11, set11, var12, set12, var13, set13, var14, set14, var15, set15, var16, set16, var17, set17, var18, set18, var19, set19, wp_bnd, wpr, wpe, wp_chk, bndr, bnde, List.append_nil, List.nil_append, List.cons_append, cond_true, cond_false, decide_eq_true_eq, slc_s1, slc_s2, slc_s3, slc_t1, slc_t2, slc_t3, slc_l1, slc_l2, slc_l3, chk_i, sliceE, add_ii, sub_ii, mul_ii, fdiv_ii, mod_ii, pow_ii, eq_ii, ne_ii, lt_ii, le_ii, gt_ii, ge_ii, add_ss, add_tt, mul_si, eq_ss, ne_ss, eq_bb, neg_i, abs_i, int_i, int_b, len_s, len_t, len_k, max_ii, min_ii, tr_b, tr_i, tr_s, tr_n, ie_i, is_i, isnt_i, ie_s, is_s, isnt_s, ie_b, is_b, isnt_b, ie_t, is_t, isnt_t, ie_l, is_l, isnt_l, ie_k, is_k, isnt_k, ie_n, is_n, isnt_n, ie_e, in_ss, nin_ss, sub_si, sub_ti, kst, end_rt, end_nx])

end NB

set_option Elab.async false
set_option linter.all false
set_option maxRecDepth 100000
set_option maxHeartbeats 0
namespace NB
open PySem PySem.Spec L2
open PyProof.Rows hiding St
def loose0 : List PySem.Str := ["NotBehindError", "BadNumber", "DivisionByZero", "BadCount", "BadSize", "BadName", "BadText", "BadRow", "BadShare", "BadWeight", "Mismatch", "NoHelper", "NotExact", "Lacking", "GameOver", "NothingToTakeBack", "UnknownName", "TakenName", "WrongKind", "InUse", "OUTCOMES", "WIDEST", "MOST_ROUNDS", "check_count", "has_only", "check_text", "check_order", "most_rounds", "letters", "renamed"]
def loose1 : List PySem.Str := ["back_order", "_law_store", "_law_mixed", "_law_take", "_law_edge", "_law_shuffled", "_law_same", "_law_refusal", "_law_bare", "_law_most", "_law_row", "_law_bad_text", "_law_free", "_law_order", "_law_bad_order", "_law_renamed_by", "_law_back_of", "_law_is_order", "_law_is_renamed", "_law_undone", "_law_order_judged", "_law_joint"]
def looseAll : List PySem.Str := loose0 ++ loose1
abbrev R : PySem.W.OpenRow := PySem.W.OpenLaw.row PySem.Challenge.rw_notbehind_k09_orders_and_back
abbrev hk : PySem.W.Hook := He.hookX 5 tb.fa tb.fn [] [] tb.ex
def ob (s : PySem.W.SharedT) : He.AlX := He.obsX 5 tb.fa tb.fn [] [] tb.ex (HandSHeadRun.getT s)
theorem ob_eq (s : PySem.W.SharedT) : ob s = hk.obs s.abs := He.obsX_eq (HandSHeadRun.getT_eq s)
theorem run (w : World) : HandSHeadRun.RunEq R (PySem.W.view R.prog [55]) hk ob 6000 looseAll w := by
  intro os
  kernel_rfl
end NB
open PySem PySem.W PySem.Calls PyProof.Rows
theorem PySem.Challenge.cw_notbehind_k09_orders_and_back_holds : PySem.Challenge.rw_notbehind_k09_orders_and_back.Holds := by
  w_on; o_law
  refine HandSHeadRun.head_any (r := OpenLaw.row PySem.Challenge.rw_notbehind_k09_orders_and_back) (q := view (OpenLaw.row PySem.Challenge.rw_notbehind_k09_orders_and_back).prog [55]) (H := NB.hk) (ob := NB.ob) (M := 6000) (loose := NB.looseAll) (d := HandSHeadRun.topDef (OpenLaw.row PySem.Challenge.rw_notbehind_k09_orders_and_back).prog 55) (kwd := []) NB.ob_eq
    (by kernel_rfl) (fun s => by kernel_rfl) NB.run (by kernel_rfl) (by kernel_rfl) (by kernel_rfl) (by rfl) (by first | assumption | decide +kernel) (by decide +kernel) ⟨rfl, rfl, rfl, rfl, rfl, by decide +kernel⟩ ?hw ?hc
  case hw => w_witness2
  case hc => exact NB.law_walk (l := PySem.Challenge.rw_notbehind_k09_orders_and_back) (n := 63) (m := 60) (f := 29) (x := "_law_script") (B := NB.tb) (df := NB.d29) (fun w h y => y) NB.tbok rfl (by decide) (by kernel_rfl) ⟨rfl, by decide, by decide⟩ rfl (by kernel_rfl) rfl NB.law_spec
